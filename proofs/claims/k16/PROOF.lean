import PyProof.Rows.All
import Wide.All
import OpenK.AllK
import Wide.FinOn
import HandS.ForMost
import HandS.Wide
import HandS.Zip
import HandS.ExcValue
import HandS.ExcIs
import HandS.WordsExc
import HandS.ExcOwn
import HandS.Exc
import HandS.IsInst
import HandS.TupAny
import HandS.TupMul
import HandS.Style
import HandS.SortRule
import HandS.SortInts
import HandS.Text
import HandS.Conv
import KE.GoesZip
import KE.GoesMore
import KE.DataFind
import HandS.ExcBuiltin
import PyProof.EnumMake
import PySem.Challenge.RW_underone_k16_standing_rows
set_option Elab.async false
set_option linter.all false
set_option maxRecDepth 100000
/-! L3: a layer of values over HandS: data (PyData), lists of one's own as trees, no addresses in sight. -/
namespace L3
open PySem PySem.Spec PyProof.Rows L2

/-- a value: data that never changes again, a plain V, the script (a list of ints that is only read), a list of one's own (it may be changed), a tuple of such -/
inductive T where
  | d (x : PyData) | v (x : V) | sc (a : Addr) (ns : List Int) | own (a : Addr) (l : List T) | tp (l : List T)
abbrev Rho := List (Option T)
def Sub (Z Z' : Hp) : Prop := ∀ a o, Z a = some o → Z' a = some o
theorem Sub.refl (Z : Hp) : Sub Z Z := fun _ _ h => h
theorem Sub.trans {A B C : Hp} (h : Sub A B) (k : Sub B C) : Sub A C := fun a o e => k a o (h a o e)
theorem Sub.L {K : PySem.W.Frag} {Z Z' : Hp} {a : Addr} {xs : List V} (e : Sub Z Z') (h : SqL K Z a xs) : SqL K Z' a xs := by
  rcases h with (h | ⟨o, h⟩) | h
  · exact .inl (.inl (e _ _ h))
  · exact .inl (.inr ⟨o, e _ _ h⟩)
  · exact .inr h
theorem Sub.T {K : PySem.W.Frag} {Z Z' : Hp} {a : Addr} {xs : List V} (e : Sub Z Z') (h : SqT K Z a xs) : SqT K Z' a xs := by
  rcases h with (h | ⟨o, h⟩) | h
  · exact .inl (.inl (e _ _ h))
  · exact .inl (.inr ⟨o, e _ _ h⟩)
  · exact .inr h
/-- an object that is an exception of the class C, and stays one -/
def IsExc (C : Addr) (a : Addr) (o : HO) : Prop := ∃ φ, o = .ext φ ∧ ∀ h, φ h → ∃ (oe : Obj) (vs : Array Value), h.get? a = some oe ∧ Zc (.ref C) none oe ∧ oe.data = .fields vs
/-- an exception of the class C, as data -/
abbrev excD (C : Addr) : PyData := .dict [(.int (C : Nat), .none)]
mutual
inductive Dq (K : PySem.W.Frag) (H : Hp) : V → PyData → Prop
  | non : Dq K H .non .none
  | bl (b : Bool) : Dq K H (.bl b) (.bool b)
  | int (i : Int) : Dq K H (.int i) (.int i)
  | str (x : Str) : Dq K H (.str x) (.str x)
  | lst {a : Addr} {xs : List V} {ds : List PyData} : H a = some (.lst xs) → DqAll K H xs ds → Dq K H (.ref a) (.list ds)
  | tup {a : Addr} {xs : List V} {ds : List PyData} : H a = some (.tup xs) → DqAll K H xs ds → Dq K H (.ref a) (.tuple ds)
  | exc {a C : Addr} {o : HO} : H a = some o → IsExc C a o → Dq K H (.ref a) (excD C)
inductive DqAll (K : PySem.W.Frag) (H : Hp) : List V → List PyData → Prop
  | nil : DqAll K H [] []
  | cons {v : V} {vs : List V} {d : PyData} {ds : List PyData} : Dq K H v d → DqAll K H vs ds → DqAll K H (v :: vs) (d :: ds)
end
mutual
theorem dq_dp {K : PySem.W.Frag} {Z : Hp} : ∀ (d : PyData) (v : V), d.canLay0 = true → Dq K Z v d → Dp K Z v d
  | .none, _, _, h => by cases h; exact .non
  | .bool b, _, _, h => by cases h; exact .bl b
  | .int i, _, _, h => by cases h; exact .int i
  | .str x, _, _, h => by cases h; exact .str x
  | .list ds, _, c, h => by
    cases h with
    | lst hs ha => exact .lst (SqL.of hs) (dqa_dp ds _ (by simpa [PyData.canLay0] using c) ha)
  | .tuple ds, _, c, h => by
    cases h with
    | tup hs ha => exact .tup (SqT.of hs) (dqa_dp ds _ (by simpa [PyData.canLay0] using c) ha)
  | .dict _, _, c, h => by simp [PyData.canLay0] at c
theorem dqa_dp {K : PySem.W.Frag} {Z : Hp} : ∀ (ds : List PyData) (vs : List V), PyData.canLayAll0 ds = true → DqAll K Z vs ds → DpAll K Z vs ds
  | [], _, _, h => by cases h; exact .nil
  | d :: ds, _, c, h => by
    have c' : d.canLay0 = true ∧ PyData.canLayAll0 ds = true := by simpa [PyData.canLayAll0] using c
    cases h with
    | cons h1 h2 => exact .cons (dq_dp d _ c'.1 h1) (dqa_dp ds _ c'.2 h2)
end
mutual
theorem dp_mono {K : PySem.W.Frag} {Z Z' : Hp} (e : Sub Z Z') : ∀ (d : PyData) (v : V), Dq K Z v d → Dq K Z' v d
  | .none, _, h => by cases h; exact .non
  | .bool b, _, h => by cases h; exact .bl b
  | .int i, _, h => by cases h; exact .int i
  | .str x, _, h => by cases h; exact .str x
  | .list ds, _, h => by
    cases h with
    | lst hs ha => exact .lst (e _ _ hs) (dpa_mono e ds _ ha)
  | .tuple ds, _, h => by
    cases h with
    | tup hs ha => exact .tup (e _ _ hs) (dpa_mono e ds _ ha)
  | .dict _, _, h => by
    cases h with
    | exc h1 h2 => exact .exc (e _ _ h1) h2
theorem dpa_mono {K : PySem.W.Frag} {Z Z' : Hp} (e : Sub Z Z') : ∀ (ds : List PyData) (vs : List V), DqAll K Z vs ds → DqAll K Z' vs ds
  | [], _, h => by cases h; exact .nil
  | d :: ds, _, h => by
    cases h with
    | cons h1 h2 => exact .cons (dp_mono e d _ h1) (dpa_mono e ds _ h2)
end
mutual
/-- no list within -/
def LF : PyData → Bool
  | .list _ => false
  | .tuple ds => LFs ds
  | .dict _ => false
  | .none => true
  | .bool _ => true
  | .int _ => true
  | .str _ => true
def LFs : List PyData → Bool
  | [] => true
  | d :: ds => LF d && LFs ds
end
/-- a heap without some tracked lists -/
def SubT (Z Z' : Hp) : Prop := ∀ a o, Z a = some o → (∀ xs, o ≠ .lst xs) → Z' a = some o
theorem SubT.T {K : PySem.W.Frag} {Z Z' : Hp} {a : Addr} {xs : List V} (e : SubT Z Z') (h : SqT K Z a xs) : SqT K Z' a xs := by
  rcases h with (h | ⟨o, h⟩) | h
  · exact .inl (.inl (e _ _ h (fun _ q => nomatch q)))
  · exact .inl (.inr ⟨o, e _ _ h (fun _ q => nomatch q)⟩)
  · exact .inr h
mutual
theorem dp_lf {K : PySem.W.Frag} {Z Z' : Hp} (e : SubT Z Z') : ∀ (d : PyData) (v : V), LF d = true → Dq K Z v d → Dq K Z' v d
  | .none, _, _, h => by cases h; exact .non
  | .bool b, _, _, h => by cases h; exact .bl b
  | .int i, _, _, h => by cases h; exact .int i
  | .str x, _, _, h => by cases h; exact .str x
  | .list ds, _, l, h => by simp [LF] at l
  | .tuple ds, _, l, h => by
    cases h with
    | tup hs ha => exact .tup (e _ _ hs (fun _ q => nomatch q)) (dpa_lf e ds _ (by simpa [LF] using l) ha)
  | .dict _, _, l, h => by simp [LF] at l
theorem dpa_lf {K : PySem.W.Frag} {Z Z' : Hp} (e : SubT Z Z') : ∀ (ds : List PyData) (vs : List V), LFs ds = true → DqAll K Z vs ds → DqAll K Z' vs ds
  | [], _, _, h => by cases h; exact .nil
  | d :: ds, _, l, h => by
    have l' : LF d = true ∧ LFs ds = true := by simpa [LFs] using l
    cases h with
    | cons h1 h2 => exact .cons (dp_lf e d _ l'.1 h1) (dpa_lf e ds _ l'.2 h2)
end

mutual
inductive RT (K : PySem.W.Frag) (Z H : Hp) : T → V → Prop
  | d {x : PyData} {v : V} : Dq K Z v x → RT K Z H (.d x) v
  | v {x : V} : RT K Z H (.v x) x
  | sc {a : Addr} {ns : List Int} : SqL K Z a (ns.map V.int) → RT K Z H (.sc a ns) (.ref a)
  | own {a : Addr} {l : List T} {xs : List V} : H a = some (.lst xs) → RTs K Z H l xs → RT K Z H (.own a l) (.ref a)
  | tp {a : Addr} {l : List T} {xs : List V} : Z a = some (.tup xs) → RTs K Z H l xs → RT K Z H (.tp l) (.ref a)
inductive RTs (K : PySem.W.Frag) (Z H : Hp) : List T → List V → Prop
  | nil : RTs K Z H [] []
  | cons {t : T} {l : List T} {v : V} {vs : List V} : RT K Z H t v → RTs K Z H l vs → RTs K Z H (t :: l) (v :: vs)
end
mutual
/-- how often the list at a stands in it as one's own -/
def ct (a : Addr) : T → Nat
  | .d _ => 0
  | .v _ => 0
  | .sc _ _ => 0
  | .own b l => (if b = a then 1 else 0) + cts a l
  | .tp l => cts a l
def cts (a : Addr) : List T → Nat
  | [] => 0
  | t :: l => ct a t + cts a l
end
def cto (a : Addr) : Rho → Nat
  | [] => 0
  | none :: r => cto a r
  | some t :: r => ct a t + cto a r
def ctq (a : Addr) : Option T → Nat
  | none => 0
  | some t => ct a t
theorem cto_cons (a : Addr) (q : Option T) (r : Rho) : cto a (q :: r) = ctq a q + cto a r := by
  cases q with
  | none => show cto a r = 0 + cto a r; omega
  | some t => rfl
theorem cto_set (a : Addr) : ∀ (r : Rho) (i : Nat) (q x : Option T), r[i]? = some q → cto a (r.set i x) + ctq a q = cto a r + ctq a x
  | [], i, q, x, h => by simp at h
  | y :: r, 0, q, x, h => by
    have e : y = q := by simpa using h
    subst e
    rw [List.set_cons_zero, cto_cons, cto_cons]
    omega
  | y :: r, i + 1, q, x, h => by
    have h' : r[i]? = some q := by simpa using h
    have ih := cto_set a r i q x h'
    rw [List.set_cons_succ, cto_cons, cto_cons]
    omega
theorem cto_set_ge (a : Addr) : ∀ (r : Rho) (i : Nat) (x : Option T), r.length ≤ i → cto a (r.set i x) = cto a r := fun r i x h => by
  rw [List.set_eq_of_length_le h]
theorem cts_append (a : Addr) : ∀ (l m : List T), cts a (l ++ m) = cts a l + cts a m
  | [], m => by simp [cts]
  | t :: l, m => by simp only [List.cons_append, cts, cts_append a l m]; omega
theorem cts_get (a : Addr) : ∀ (l : List T) (i : Nat) (t : T), l[i]? = some t → ct a t ≤ cts a l
  | [], i, t, h => by simp at h
  | y :: l, 0, t, h => by
    have e : y = t := by simpa using h
    subst e
    simp only [cts]
    omega
  | y :: l, i + 1, t, h => by
    have h' : l[i]? = some t := by simpa using h
    have := cts_get a l i t h'
    simp only [cts]
    omega
theorem cts_set (a : Addr) : ∀ (l : List T) (i : Nat) (t x : T), l[i]? = some t → cts a (l.set i x) + ct a t = cts a l + ct a x
  | [], i, t, x, h => by simp at h
  | y :: l, 0, t, x, h => by
    have e : y = t := by simpa using h
    subst e
    simp only [List.set_cons_zero, cts]
    omega
  | y :: l, i + 1, t, x, h => by
    have h' : l[i]? = some t := by simpa using h
    have := cts_set a l i t x h'
    simp only [List.set_cons_succ, cts]
    omega
theorem cto_get (a : Addr) : ∀ (r : Rho) (i : Nat) (t : T), r[i]? = some (some t) → ct a t ≤ cto a r
  | [], i, t, h => by simp at h
  | y :: r, 0, t, h => by
    have e : y = some t := by simpa using h
    subst e
    simp only [cto]
    omega
  | y :: r, i + 1, t, h => by
    have h' : r[i]? = some (some t) := by simpa using h
    have := cto_get a r i t h'
    rw [cto_cons]
    omega

mutual
theorem rt_mono {K : PySem.W.Frag} {Z Z' H H' : Hp} (e : Sub Z Z') : ∀ (t : T) (v : V), (∀ a, 0 < ct a t → ∀ o, H a = some o → H' a = some o) → RT K Z H t v → RT K Z' H' t v
  | .d x, v, _, h => by
    cases h with
    | d h => exact .d (dp_mono e x v h)
  | .v x, v, _, h => by cases h; exact .v
  | .sc a ns, v, _, h => by
    cases h with
    | sc h => exact .sc (e.L h)
  | .own a l, v, k, h => by
    cases h with
    | own h1 h2 => exact .own (k a (by simp only [ct, if_true]; omega) _ h1) (rts_mono e l _ (fun b hb => k b (by simp only [ct]; omega)) h2)
  | .tp l, v, k, h => by
    cases h with
    | tp h1 h2 => exact .tp (e _ _ h1) (rts_mono e l _ (fun b hb => k b (by simp only [ct]; omega)) h2)
theorem rts_mono {K : PySem.W.Frag} {Z Z' H H' : Hp} (e : Sub Z Z') : ∀ (l : List T) (vs : List V), (∀ a, 0 < cts a l → ∀ o, H a = some o → H' a = some o) → RTs K Z H l vs → RTs K Z' H' l vs
  | [], _, _, h => by cases h; exact .nil
  | t :: l, _, k, h => by
    cases h with
    | cons h1 h2 => exact .cons (rt_mono e t _ (fun a ha => k a (by simp only [cts]; omega)) h1) (rts_mono e l _ (fun a ha => k a (by simp only [cts]; omega)) h2)
end
mutual
def lft : T → Bool
  | .d x => LF x
  | .v _ => true
  | .sc _ _ => false
  | .own _ l => lfts l
  | .tp l => lfts l
def lfts : List T → Bool
  | [] => true
  | t :: l => lft t && lfts l
end
mutual
theorem rt_lf {K : PySem.W.Frag} {Z Z' H : Hp} (e : SubT Z Z') : ∀ (t : T) (v : V), lft t = true → RT K Z H t v → RT K Z' H t v
  | .d x, v, k, h => by
    cases h with
    | d h => exact .d (dp_lf e x v (by simpa [lft] using k) h)
  | .v x, v, _, h => by cases h; exact .v
  | .sc a ns, v, k, h => by simp [lft] at k
  | .own a l, v, k, h => by
    cases h with
    | own h1 h2 => exact .own h1 (rts_lf e l _ (by simpa [lft] using k) h2)
  | .tp l, v, k, h => by
    cases h with
    | tp h1 h2 => exact .tp (e _ _ h1 (fun _ q => nomatch q)) (rts_lf e l _ (by simpa [lft] using k) h2)
theorem rts_lf {K : PySem.W.Frag} {Z Z' H : Hp} (e : SubT Z Z') : ∀ (l : List T) (vs : List V), lfts l = true → RTs K Z H l vs → RTs K Z' H l vs
  | [], _, _, h => by cases h; exact .nil
  | t :: l, _, k, h => by
    have k' : lft t = true ∧ lfts l = true := by simpa [lfts] using k
    cases h with
    | cons h1 h2 => exact .cons (rt_lf e t _ k'.1 h1) (rts_lf e l _ k'.2 h2)
end
mutual
def fz : T → PyData
  | .d x => x
  | .v _ => .none
  | .sc _ _ => .none
  | .own _ l => .list (fzs l)
  | .tp l => .tuple (fzs l)
def fzs : List T → List PyData
  | [] => []
  | t :: l => fz t :: fzs l
end
mutual
def nv : T → Bool
  | .d _ => true
  | .v _ => false
  | .sc _ _ => false
  | .own _ l => nvs l
  | .tp l => nvs l
def nvs : List T → Bool
  | [] => true
  | t :: l => nv t && nvs l
end
mutual
theorem rt_fz {K : PySem.W.Frag} {Z Z' H : Hp} (e : Sub Z Z') : ∀ (t : T) (v : V), nv t = true → (∀ a, 0 < ct a t → ∀ o, H a = some o → Z' a = some o) → RT K Z H t v → Dq K Z' v (fz t)
  | .d x, v, _, _, h => by
    cases h with
    | d h => exact dp_mono e x v h
  | .v x, v, k, _, h => by simp [nv] at k
  | .sc a ns, v, k, _, h => by simp [nv] at k
  | .own a l, v, k, j, h => by
    cases h with
    | own h1 h2 => exact .lst (j a (by simp only [ct, if_true]; omega) _ h1) (rts_fz e l _ (by simpa [nv] using k) (fun b hb => j b (by simp only [ct]; omega)) h2)
  | .tp l, v, k, j, h => by
    cases h with
    | tp h1 h2 => exact .tup (e _ _ h1) (rts_fz e l _ (by simpa [nv] using k) (fun b hb => j b (by simp only [ct]; omega)) h2)
theorem rts_fz {K : PySem.W.Frag} {Z Z' H : Hp} (e : Sub Z Z') : ∀ (l : List T) (vs : List V), nvs l = true → (∀ a, 0 < cts a l → ∀ o, H a = some o → Z' a = some o) → RTs K Z H l vs → DqAll K Z' vs (fzs l)
  | [], _, _, _, h => by cases h; exact .nil
  | t :: l, _, k, j, h => by
    have k' : nv t = true ∧ nvs l = true := by simpa [nvs] using k
    cases h with
    | cons h1 h2 => exact .cons (rt_fz e t _ k'.1 (fun a ha => j a (by simp only [cts]; omega)) h1) (rts_fz e l _ k'.2 (fun a ha => j a (by simp only [cts]; omega)) h2)
end
mutual
/-- where a list of one's own stands it is tracked as a list -/
theorem rt_own {K : PySem.W.Frag} {Z H : Hp} {a : Addr} : ∀ (t : T) (v : V), RT K Z H t v → 0 < ct a t → ∃ xs, H a = some (.lst xs)
  | .d x, v, h, c => by simp [ct] at c
  | .v x, v, h, c => by simp [ct] at c
  | .sc b ns, v, h, c => by simp [ct] at c
  | .own b l, v, h, c => by
    cases h with
    | own h1 h2 =>
      by_cases e : b = a
      · subst e; exact ⟨_, h1⟩
      · exact rts_own l _ h2 (by simp only [ct, if_neg e] at c; omega)
  | .tp l, v, h, c => by
    cases h with
    | tp h1 h2 => exact rts_own l _ h2 (by simpa [ct] using c)
theorem rts_own {K : PySem.W.Frag} {Z H : Hp} {a : Addr} : ∀ (l : List T) (vs : List V), RTs K Z H l vs → 0 < cts a l → ∃ xs, H a = some (.lst xs)
  | [], _, h, c => by simp [cts] at c
  | t :: l, _, h, c => by
    cases h with
    | cons h1 h2 =>
      by_cases e : 0 < ct a t
      · exact rt_own t _ h1 e
      · exact rts_own l _ h2 (by simp only [cts] at c; omega)
end

/-- the state: data at Z (never changed), what is not ours at G, lists of our own: each at one place -/
structure S3 (K : PySem.W.Frag) (G Z H : Hp) (ks : List T) (vs : List V) (r : Rho) (s : L2.St) : Prop where
  zh : Sub Z H
  gh : Sub G H
  one : ∀ a, cts a ks + cto a r ≤ 1
  ow : ∀ a, 0 < cts a ks + cto a r → Z a = none ∧ G a = none
  stk : RTs K Z H ks vs
  slot : ∀ (i : Nat) (t : T), r[i]? = some (some t) → ∃ v, s[i]? = some (some v) ∧ RT K Z H t v
  len : r.length = s.length

section
variable {K : PySem.W.Frag} {G Z Z' H H' : Hp} {ks : List T} {vs : List V} {r r' : Rho} {s : L2.St} {t : T} {v : V} {i : Nat} {a : Addr}
theorem S3.owned (h : S3 K G Z H ks vs r s) (c : 0 < cts a ks + cto a r) : ∃ xs, H a = some (.lst xs) := by
  by_cases e : 0 < cts a ks
  · exact rts_own ks vs h.stk e
  · have c2 : 0 < cto a r := by omega
    have : ∀ (r : Rho), 0 < cto a r → ∃ (i : Nat) (t : T), r[i]? = some (some t) ∧ 0 < ct a t := by
      intro r
      induction r with
      | nil => intro z; simp [cto] at z
      | cons q r ih =>
        intro z
        rw [cto_cons] at z
        by_cases y : 0 < ctq a q
        · cases q with
          | none => simp [ctq] at y
          | some t => exact ⟨0, t, rfl, y⟩
        · obtain ⟨i, t, e1, e2⟩ := ih (by omega)
          exact ⟨i + 1, t, by simpa using e1, e2⟩
    obtain ⟨i, t, e1, e2⟩ := this r c2
    obtain ⟨v, _, q⟩ := h.slot i t e1
    exact rt_own t v q e2
/-- a new heap that leaves what we know as it is -/
theorem S3.grow (h : S3 K G Z H ks vs r s) (hz : Sub Z Z') (hh : ∀ a, 0 < cts a ks + cto a r → H' a = H a) (zh : Sub Z' H') (gh : Sub G H') (zn : ∀ a, 0 < cts a ks + cto a r → Z' a = none) : S3 K G Z' H' ks vs r s where
  zh := zh
  gh := gh
  one := h.one
  ow := fun a c => ⟨zn a c, (h.ow a c).2⟩
  stk := rts_mono hz ks vs (fun a c o e => by rw [hh a (by omega)]; exact e) h.stk
  slot := fun i t e => by
    obtain ⟨v, e1, q⟩ := h.slot i t e
    exact ⟨v, e1, rt_mono hz t v (fun a c o e' => by rw [hh a (by have := cto_get a r i t e; omega)]; exact e') q⟩
  len := h.len
/-- the topmost one dropped -/
theorem S3.pop (h : S3 K G Z H (t :: ks) (v :: vs) r s) : S3 K G Z H ks vs r s where
  zh := h.zh
  gh := h.gh
  one := fun a => by have := h.one a; simp only [cts] at this; omega
  ow := fun a c => h.ow a (by simp only [cts]; omega)
  stk := by cases h.stk with | cons _ q => exact q
  slot := h.slot
  len := h.len
theorem S3.top (h : S3 K G Z H (t :: ks) (v :: vs) r s) : RT K Z H t v := by cases h.stk with | cons q _ => exact q
/-- data put on top -/
theorem S3.push (h : S3 K G Z H ks vs r s) (c : ∀ a, ct a t = 0) (q : RT K Z H t v) : S3 K G Z H (t :: ks) (v :: vs) r s where
  zh := h.zh
  gh := h.gh
  one := fun a => by have := h.one a; have := c a; simp only [cts]; omega
  ow := fun a k => h.ow a (by have := c a; simp only [cts] at k; omega)
  stk := .cons q h.stk
  slot := h.slot
  len := h.len
theorem S3.pushD {x : PyData} (h : S3 K G Z H ks vs r s) (q : Dq K Z v x) : S3 K G Z H (.d x :: ks) (v :: vs) r s := h.push (fun _ => rfl) (.d q)
/-- a slot's tree taken out -/
theorem S3.take (h : S3 K G Z H ks vs r s) (e : r[i]? = some (some t)) : ∃ v, s[i]? = some (some v) ∧ S3 K G Z H (t :: ks) (v :: vs) (r.set i none) s := by
  obtain ⟨v, e1, q⟩ := h.slot i t e
  have cs : ∀ a, cto a (r.set i none) + ct a t = cto a r := fun a => by have := cto_set a r i (some t) none e; simpa [ctq] using this
  refine ⟨v, e1, ⟨h.zh, h.gh, fun a => ?_, fun a c => h.ow a ?_, .cons q h.stk, fun j u ej => ?_, by rw [List.length_set]; exact h.len⟩⟩
  · have := h.one a; have := cs a; simp only [cts]; omega
  · have := cs a; simp only [cts] at c; omega
  · by_cases hj : j = i
    · subst hj
      have : j < r.length := (List.getElem?_eq_some_iff.mp e).1
      rw [List.getElem?_set_self this] at ej
      cases ej
    · rw [List.getElem?_set_ne (Ne.symm hj)] at ej
      exact h.slot j u ej
/-- the topmost one put into a slot -/
theorem S3.put (h : S3 K G Z H (t :: ks) (v :: vs) r s) (hi : i < r.length) : S3 K G Z H ks vs (r.set i (some t)) (s.set i (some v)) where
  zh := h.zh
  gh := h.gh
  one := fun a => by
    have h1 := h.one a
    have h2 := cto_set a r i r[i] (some t) (List.getElem?_eq_getElem hi)
    simp only [cts] at h1
    simp only [ctq] at h2
    omega
  ow := fun a c => h.ow a (by
    have h2 := cto_set a r i r[i] (some t) (List.getElem?_eq_getElem hi)
    simp only [ctq] at h2
    simp only [cts]
    omega)
  stk := by cases h.stk with | cons _ q => exact q
  slot := fun j u ej => by
    by_cases hj : j = i
    · subst hj
      rw [List.getElem?_set_self hi] at ej
      cases ej
      exact ⟨v, by rw [List.getElem?_set_self (by rw [← h.len]; exact hi)], h.top⟩
    · rw [List.getElem?_set_ne (Ne.symm hj)] at ej
      obtain ⟨w, e1, q⟩ := h.slot j u ej
      exact ⟨w, by rw [List.getElem?_set_ne (Ne.symm hj)]; exact e1, q⟩
  len := by rw [List.length_set, List.length_set]; exact h.len
/-- .. where the very same object stands -/
theorem S3.back (h : S3 K G Z H (t :: ks) (v :: vs) r s) (hi : i < r.length) (e : s[i]? = some (some v)) : S3 K G Z H ks vs (r.set i (some t)) s := by
  have h1 := h.put hi
  have e2 : s.set i (some v) = s := by
    obtain ⟨hlt, e3⟩ := List.getElem?_eq_some_iff.mp e
    rw [← e3]
    exact List.set_getElem_self hlt
  rw [e2] at h1
  exact h1
/-- a slot forgotten -/
theorem S3.wipe (h : S3 K G Z H ks vs r s) : S3 K G Z H ks vs (r.set i none) (s.set i none) where
  zh := h.zh
  gh := h.gh
  one := fun a => by
    have h1 := h.one a
    by_cases hi : i < r.length
    · have h2 := cto_set a r i r[i] none (List.getElem?_eq_getElem hi)
      have h3 : ctq a none = 0 := rfl
      omega
    · rw [cto_set_ge a r i none (by omega)]; exact h1
  ow := fun a c => h.ow a (by
    by_cases hi : i < r.length
    · have h2 := cto_set a r i r[i] none (List.getElem?_eq_getElem hi)
      have h3 : ctq a none = 0 := rfl
      omega
    · rw [cto_set_ge a r i none (by omega)] at c; exact c)
  stk := h.stk
  slot := fun j u ej => by
    by_cases hj : j = i
    · subst hj
      have hi : j < r.length := by
        have := (List.getElem?_eq_some_iff.mp ej).1
        simpa using this
      rw [List.getElem?_set_self hi] at ej
      cases ej
    · rw [List.getElem?_set_ne (Ne.symm hj)] at ej
      obtain ⟨w, e1, q⟩ := h.slot j u ej
      exact ⟨w, by rw [List.getElem?_set_ne (Ne.symm hj)]; exact e1, q⟩
  len := by rw [List.length_set, List.length_set]; exact h.len
/-- slots forgotten, the state's list as it is -/
theorem S3.less (h : S3 K G Z H ks vs r s) (hl : r'.length = r.length) (hr : ∀ (i : Nat) (t : T), r'[i]? = some (some t) → r[i]? = some (some t)) : S3 K G Z H ks vs r' s := by
  have cle : ∀ (a : Addr) (r r' : Rho), r'.length = r.length → (∀ (i : Nat) (t : T), r'[i]? = some (some t) → r[i]? = some (some t)) → cto a r' ≤ cto a r := by
    intro a r
    induction r with
    | nil => intro r' hl _; cases r' with | nil => exact Nat.le_refl _ | cons _ _ => simp at hl
    | cons q r ih =>
      intro r' hl hr
      cases r' with
      | nil => simp at hl
      | cons q' r' =>
        rw [cto_cons, cto_cons]
        have h1 := ih r' (by simpa using hl) (fun i t e => by simpa using hr (i + 1) t (by simpa using e))
        have h2 : ctq a q' ≤ ctq a q := by
          cases q' with
          | none => simp [ctq]
          | some t =>
            have := hr 0 t rfl
            have e : q = some t := by simpa using this
            rw [e]
            exact Nat.le_refl _
        omega
  exact ⟨h.zh, h.gh, fun a => by have := h.one a; have := cle a r r' hl hr; omega, fun a c => h.ow a (by have := cle a r r' hl hr; omega), h.stk, fun i t e => h.slot i t (hr i t e), hl.trans h.len⟩
/-- the topmost one frozen -/
theorem S3.freeze (h : S3 K G Z H (t :: ks) (v :: vs) r s) (n : nv t = true) : ∃ Z', Sub Z Z' ∧ S3 K G Z' H (.d (fz t) :: ks) (v :: vs) r s := by
  have sz : Sub Z (fun a => if 0 < ct a t then H a else Z a) := fun a o e => by
    show (if 0 < ct a t then H a else Z a) = some o
    split
    · exact h.zh a o e
    · exact e
  have hp : S3 K G (fun a => if 0 < ct a t then H a else Z a) H ks vs r s := h.pop.grow sz (fun _ _ => rfl) (fun a o e => by
      by_cases c : 0 < ct a t
      · simpa [c] using e
      · simp [c] at e; exact h.zh a o e) h.gh (fun a c => by
      have h1 := h.one a
      simp only [cts] at h1
      rw [if_neg (by omega)]
      exact (h.ow a (by simp only [cts]; omega)).1)
  exact ⟨_, sz, hp.pushD (rt_fz sz t v n (fun a c o e => by show (if 0 < ct a t then H a else Z a) = some o; rw [if_pos c]; exact e) h.top)⟩
/-- a new object p is laid; what we know stays -/
theorem S3.laid {p : Addr} {o : HO} (h : S3 K G Z H ks vs r s) (hp : H p = none) : S3 K G Z (upd H p o) ks vs r s :=
  have zn : ∀ a u, H a = some u → a ≠ p := fun a u e q => by rw [q, hp] at e; cases e
  h.grow (Sub.refl _) (fun a c => by
    obtain ⟨xs, e⟩ := h.owned c
    rw [upd_ne (zn a _ e)]) (fun a u e => by rw [upd_ne (zn a u (h.zh a u e))]; exact h.zh a u e) (fun a u e => by rw [upd_ne (zn a u (h.gh a u e))]; exact h.gh a u e) fun a c => (h.ow a c).1
/-- .. and frozen -/
theorem S3.laidZ {p : Addr} {o : HO} (h : S3 K G Z H ks vs r s) (hp : H p = none) : Sub Z (upd Z p o) ∧ S3 K G (upd Z p o) (upd H p o) ks vs r s := by
  have hz : Z p = none := by
    cases q : Z p with
    | none => rfl
    | some u => have := h.zh p u q; rw [hp] at this; cases this
  have sz : Sub Z (upd Z p o) := fun a u e => by
    rw [upd_ne (fun q => by rw [q, hz] at e; cases e)]
    exact e
  have h1 := h.laid (o := o) hp
  refine ⟨sz, h1.grow sz (fun _ _ => rfl) (fun a u e => ?_) h1.gh fun a c => ?_⟩
  · by_cases q : a = p
    · subst q; rw [upd_same] at e ⊢; exact e
    · rw [upd_ne q] at e ⊢; exact h.zh a u e
  · obtain ⟨xs, e⟩ := h.owned c
    rw [upd_ne (fun q => by rw [q, hp] at e; cases e)]
    exact (h.ow a c).1
/-- several on top: as a list of one's own, newly laid -/
theorem S3.mkOwn {l : List T} {xs : List V} {p : Addr} (h : S3 K G Z H (l ++ ks) (xs ++ vs) r s) (hl : l.length = xs.length) (hp : H p = none) : S3 K G Z (upd H p (.lst xs)) (.own p l :: ks) (.ref p :: vs) r s := by
  have h1 := h.laid (o := .lst xs) hp
  have cp : cts p (l ++ ks) + cto p r = 0 := by
    by_cases c : 0 < cts p (l ++ ks) + cto p r
    · obtain ⟨ys, e⟩ := h.owned c
      rw [hp] at e; cases e
    · omega
  have split : ∀ (H2 : Hp) (l : List T) (xs : List V), l.length = xs.length → RTs K Z H2 (l ++ ks) (xs ++ vs) → RTs K Z H2 l xs ∧ RTs K Z H2 ks vs := by
    intro H2 l
    induction l with
    | nil => intro xs hl q; cases xs with | nil => exact ⟨.nil, q⟩ | cons _ _ => simp at hl
    | cons t l ih =>
      intro xs hl q
      cases xs with
      | nil => simp at hl
      | cons x xs =>
        cases q with
        | cons q1 q2 =>
          obtain ⟨z1, z2⟩ := ih xs (by simpa using hl) q2
          exact ⟨.cons q1 z1, z2⟩
  obtain ⟨q1, q2⟩ := split _ l xs hl h1.stk
  refine ⟨h1.zh, h1.gh, fun a => ?_, fun a c => ?_, .cons (.own upd_same q1) q2, h1.slot, h1.len⟩
  · have := h.one a
    rw [cts_append] at this cp
    simp only [cts, ct]
    by_cases e : p = a
    · subst e; simp; omega
    · simp only [if_neg e]; omega
  · simp only [cts, ct] at c
    by_cases e : p = a
    · subst e
      constructor
      · cases q : Z p with
        | none => rfl
        | some u => have := h.zh p u q; rw [hp] at this; cases this
      · cases q : G p with
        | none => rfl
        | some u => have := h.gh p u q; rw [hp] at this; cases this
    · simp only [if_neg e] at c
      exact h.ow a (by rw [cts_append]; omega)
end
end L3
namespace L3
open PySem PySem.Spec PyProof.Rows L2

/-- data is added; what is not ours is not made ours -/
structure Gr (G Z Z' : Hp) : Prop where
  sub : Sub Z Z'
  out : ∀ a o, G a = some o → Z a = none → Z' a = none
theorem Gr.refl (G Z : Hp) : Gr G Z Z := ⟨Sub.refl Z, fun _ _ _ h => h⟩
theorem Gr.trans {G A B C : Hp} (h : Gr G A B) (k : Gr G B C) : Gr G A C := ⟨h.sub.trans k.sub, fun a o e n => k.out a o e (h.out a o e n)⟩

section
variable {K : PySem.W.Frag} {G Z Z' H H' : Hp} {ks : List T} {vs : List V} {r r' : Rho} {s : L2.St} {t : T} {v : V} {i : Nat} {a : Addr}
theorem S3.freezeG (h : S3 K G Z H (t :: ks) (v :: vs) r s) (n : nv t = true) : ∃ Z', Gr G Z Z' ∧ S3 K G Z' H (.d (fz t) :: ks) (v :: vs) r s := by
  have sz : Sub Z (fun a => if 0 < ct a t then H a else Z a) := fun a o e => by
    show (if 0 < ct a t then H a else Z a) = some o
    split
    · exact h.zh a o e
    · exact e
  have hp : S3 K G (fun a => if 0 < ct a t then H a else Z a) H ks vs r s := h.pop.grow sz (fun _ _ => rfl) (fun a o e => by
      by_cases c : 0 < ct a t
      · simpa [c] using e
      · simp [c] at e; exact h.zh a o e) h.gh (fun a c => by
      have h1 := h.one a
      simp only [cts] at h1
      rw [if_neg (by omega)]
      exact (h.ow a (by simp only [cts]; omega)).1)
  refine ⟨_, ⟨sz, fun a o e n => ?_⟩, hp.pushD (rt_fz sz t v n (fun a c o e => by show (if 0 < ct a t then H a else Z a) = some o; rw [if_pos c]; exact e) h.top)⟩
  show (if 0 < ct a t then H a else Z a) = none
  by_cases c : 0 < ct a t
  · have := (h.ow a (by simp only [cts]; omega)).2
    rw [this] at e; cases e
  · rw [if_neg c]; exact n
theorem S3.laidG {p : Addr} {o : HO} (h : S3 K G Z H ks vs r s) (hp : H p = none) : Gr G Z (upd Z p o) ∧ S3 K G (upd Z p o) (upd H p o) ks vs r s := by
  obtain ⟨h1, h2⟩ := h.laidZ (o := o) hp
  refine ⟨⟨h1, fun a u e n => ?_⟩, h2⟩
  rw [upd_ne (fun q => by rw [q] at e; have := h.gh p u e; rw [hp] at this; cases this)]
  exact n
end

abbrev TE3 := Rho → (T → Rho → Prop) → Prop
abbrev TT3 := Rho → (Bool → Rho → Prop) → Prop
/-- what a value read is, as long as data is only added -/
def Pv (K : PySem.W.Frag) (Z : Hp) (r : Rho) (s : L2.St) (t : T) (v : V) : Prop :=
  match t with
  | .d x => Dq K Z v x
  | .v x => v = x
  | .sc a ns => v = .ref a ∧ SqL K Z a (ns.map V.int)
  | t => ∀ G Z' H ks vs, Sub Z Z' → S3 K G Z' H ks vs r s → RT K Z' H t v
/-- an expression whose value is put on top (a new list, or data) -/
structure P3 (X : Cx) (e : Expr) (t : TE3) : Prop where
  ex : ∃ te : TE, PE X e te ∧ ∀ (G Z H : Hp) (ks : List T) (vs : List V) (r : Rho) (s : L2.St) (Q : VK) (Q3 : T → Rho → Prop), S3 X.K G Z H ks vs r s → t r Q3 →
    (∀ Z' H' x v r', Gr G Z Z' → S3 X.K G Z' H' (x :: ks) (v :: vs) r' s → Q3 x r' → Q v H') → te s H Q
/-- an expression whose value is read -/
structure R3 (X : Cx) (e : Expr) (t : TE3) : Prop where
  ex : ∃ te : TE, PE X e te ∧ ∀ (G Z H : Hp) (ks : List T) (vs : List V) (r : Rho) (s : L2.St) (Q : VK) (Q3 : T → Rho → Prop), S3 X.K G Z H ks vs r s → t r Q3 →
    (∀ Z' H' x v r', Gr G Z Z' → S3 X.K G Z' H' ks vs r' s → Pv X.K Z' r' s x v → Q3 x r' → Q v H') → te s H Q
/-- a test -/
structure T3 (X : Cx) (e : Expr) (t : TT3) : Prop where
  ex : ∃ te : TT, PT X e te ∧ ∀ (G Z H : Hp) (ks : List T) (vs : List V) (r : Rho) (s : L2.St) (Q : Bool → Hp → Prop) (Q3 : Bool → Rho → Prop), S3 X.K G Z H ks vs r s → t r Q3 →
    (∀ Z' H' b r', Gr G Z Z' → S3 X.K G Z' H' ks vs r' s → Q3 b r' → Q b H') → te s H Q
/-- .. whatever its whole is (and, or) -/
structure W3 (X : Cx) (e : Expr) (t : TT3) : Prop where
  ex : ∃ te : TT, PW X e te ∧ ∀ (G Z H : Hp) (ks : List T) (vs : List V) (r : Rho) (s : L2.St) (Q : Bool → Hp → Prop) (Q3 : Bool → Rho → Prop), S3 X.K G Z H ks vs r s → t r Q3 →
    (∀ Z' H' b r', Gr G Z Z' → S3 X.K G Z' H' ks vs r' s → Q3 b r' → Q b H') → te s H Q

section
variable {K : PySem.W.Frag} {G Z Z' H H' : Hp} {ks : List T} {vs : List V} {r r' : Rho} {s : L2.St} {t : T} {v : V} {i : Nat} {a : Addr}
theorem Pv.keep (h : Pv K Z r s t v) (z : Sub Z Z') : Pv K Z' r s t v := by
  cases t with
  | d x => exact dp_mono z x v h
  | v x => exact h
  | sc a ns => exact ⟨h.1, z.L h.2⟩
  | own a l => exact fun G Z2 H ks vs q => h G Z2 H ks vs (z.trans q)
  | tp l => exact fun G Z2 H ks vs q => h G Z2 H ks vs (z.trans q)
theorem Pv.now (h : Pv K Z r s t v) (q : S3 K G Z H ks vs r s) : RT K Z H t v := by
  cases t with
  | d x => exact .d h
  | v x => rw [show v = x from h]; exact .v
  | sc a ns => rw [show v = .ref a from h.1]; exact .sc h.2
  | own a l => exact h G Z H ks vs (Sub.refl _) q
  | tp l => exact h G Z H ks vs (Sub.refl _) q
/-- a read value as data, over the whole heap -/
theorem Pv.data (h : Pv K Z r s t v) (q : S3 K G Z H ks vs r s) (n : nv t = true) : Dq K H v (fz t) := rt_fz q.zh t v n (fun _ _ _ e => e) (h.now q)
theorem Pv.int {i : Int} (h : Pv K Z r s (.d (.int i)) v) : v = .int i := by
  cases (show Dq K Z v (.int i) from h)
  rfl
theorem Pv.bool {b : Bool} (h : Pv K Z r s (.d (.bool b)) v) : v = .bl b := by
  cases (show Dq K Z v (.bool b) from h)
  rfl
theorem Pv.str {x : Str} (h : Pv K Z r s (.d (.str x)) v) : v = .str x := by
  cases (show Dq K Z v (.str x) from h)
  rfl
end
/-- the first of two values read, behind the second one -/
structure Pv2 (K : PySem.W.Frag) (Z : Hp) (r1 r2 : Rho) (s : L2.St) (t : T) (v : V) : Prop where
  dat : ∀ x, t = .d x → Dq K Z v x
  val : ∀ x, t = .v x → v = x
  scr : ∀ a ns, t = .sc a ns → v = .ref a ∧ SqL K Z a (ns.map V.int)
  same : r2 = r1 → Pv K Z r2 s t v
theorem Pv.two {K : PySem.W.Frag} {Z Z' : Hp} {r1 r2 : Rho} {s : L2.St} {t : T} {v : V} (h : Pv K Z r1 s t v) (z : Sub Z Z') : Pv2 K Z' r1 r2 s t v :=
  ⟨fun x e => by subst e; exact dp_mono z x v h, fun x e => by subst e; exact h, fun a ns e => by subst e; exact ⟨h.1, z.L h.2⟩, fun e => by subst e; exact h.keep z⟩
theorem Pv2.int {K : PySem.W.Frag} {Z : Hp} {r1 r2 : Rho} {s : L2.St} {i : Int} {v : V} (h : Pv2 K Z r1 r2 s (.d (.int i)) v) : v = .int i := by
  cases h.dat _ rfl
  rfl

/-! ### what a value is -/
def asI (t : T) (k : Int → Prop) : Prop := match t with | .d (.int i) => k i | _ => False
def asB (t : T) (k : Bool → Prop) : Prop := match t with | .d (.bool b) => k b | _ => False
def asS (t : T) (k : Str → Prop) : Prop := match t with | .d (.str x) => k x | _ => False
theorem asI_d (i : Int) (k : Int → Prop) : asI (.d (.int i)) k = k i := rfl
theorem asB_d (i : Bool) (k : Bool → Prop) : asB (.d (.bool i)) k = k i := rfl
theorem asS_d (i : Str) (k : Str → Prop) : asS (.d (.str i)) k = k i := rfl
theorem asI_of {t : T} {k : Int → Prop} (h : asI t k) : ∃ i, t = .d (.int i) ∧ k i := by
  unfold asI at h
  split at h
  · exact ⟨_, rfl, h⟩
  · exact h.elim
theorem asB_of {t : T} {k : Bool → Prop} (h : asB t k) : ∃ i, t = .d (.bool i) ∧ k i := by
  unfold asB at h
  split at h
  · exact ⟨_, rfl, h⟩
  · exact h.elim
theorem asS_of {t : T} {k : Str → Prop} (h : asS t k) : ∃ i, t = .d (.str i) ∧ k i := by
  unfold asS at h
  split at h
  · exact ⟨_, rfl, h⟩
  · exact h.elim

section
variable {X : Cx} {e a b c : Expr} {t ta tb tc : TE3} {pos : Pos}

/-! ### from one reading to the other -/
/-- data read is data on top -/
def xD (t : TE3) : TE3 := fun r Q => t r fun x r' => match x with | .d y => Q (.d y) r' | .v y => Q (.v y) r' | .sc a ns => Q (.sc a ns) r' | _ => False
theorem p3 (h : R3 X e t) : P3 X e (xD t) := by
  obtain ⟨te, he, hs⟩ := h.ex
  refine ⟨te, he, fun G Z H ks vs r s Q Q3 st ht k => hs G Z H ks vs r s Q _ st ht fun Z' H' x v r' gr st' pv q => ?_⟩
  cases x with
  | d y => exact k Z' H' (.d y) v r' gr (st'.pushD pv) q
  | v y => exact k Z' H' (.v y) v r' gr (st'.push (fun _ => rfl) (by rw [show v = y from pv]; exact .v)) q
  | sc a ns => exact k Z' H' (.sc a ns) v r' gr (st'.push (fun _ => rfl) (by rw [show v = .ref a from pv.1]; exact .sc pv.2)) q
  | own a l => exact q.elim
  | tp l => exact q.elim
/-- what is on top is frozen and read -/
def xFz (t : TE3) : TE3 := fun r Q => t r fun x r' => match x with | .d y => Q (.d y) r' | .v y => Q (.v y) r' | .sc a ns => Q (.sc a ns) r' | x => nv x = true ∧ Q (.d (fz x)) r'
theorem r3 (h : P3 X e t) : R3 X e (xFz t) := by
  obtain ⟨te, he, hs⟩ := h.ex
  refine ⟨te, he, fun G Z H ks vs r s Q Q3 st ht k => hs G Z H ks vs r s Q _ st ht fun Z' H' x v r' gr st' q => ?_⟩
  have fin : ∀ x : T, nv x = true → S3 X.K G Z' H' (x :: ks) (v :: vs) r' s → Q3 (.d (fz x)) r' → Q v H' := fun x n st' q => by
    obtain ⟨Z2, g2, st2⟩ := st'.freezeG n
    have h := st2.top
    cases h with
    | d h => exact k Z2 H' (.d (fz x)) v r' (gr.trans g2) st2.pop h q
  cases x with
  | d y => exact fin (.d y) rfl st' q
  | v y =>
    have h := st'.top
    have e1 : v = y := by cases h; rfl
    exact k Z' H' (.v y) v r' gr st'.pop e1 q
  | sc a ns =>
    have h := st'.top
    cases h with
    | sc h => exact k Z' H' (.sc a ns) _ r' gr st'.pop ⟨rfl, h⟩ q
  | own a l => exact fin _ q.1 st' q.2
  | tp l => exact fin _ q.1 st' q.2

/-! ### names, constants -/
def xView (i : Nat) : TE3 := fun r Q => match r[i]? with | some (some t) => Q t r | _ => False
theorem view_of {i : Nat} {r : Rho} {Q : T → Rho → Prop} (h : xView i r Q) : ∃ t, r[i]? = some (some t) ∧ Q t r := by
  unfold xView at h
  split at h
  · exact ⟨_, by assumption, h⟩
  · exact h.elim
theorem r3_name (i : Nat) {x : Str} (hN : X.N[i]? = some x := by rfl) (hv : Vis X.env.scope x := by first | exact Or.inl rfl | exact Or.inr (Or.inl rfl) | exact Or.inr (Or.inr rfl)) (hd : (x == ("__debug__" : Str)) = false := by decide)
    (hcd : (x == ("__classdict__" : Str)) = false := by decide) : R3 X (.Name x pos) (xView i) := by
  refine ⟨tVar i, pe_var hN hv hd hcd, fun G Z H ks vs r s Q Q3 st ht k => ?_⟩
  obtain ⟨t, e, q⟩ := view_of ht
  obtain ⟨v, ev, rt⟩ := st.slot i t e
  refine ⟨v, ev, k Z H t v r (Gr.refl _ _) st ?_ q⟩
  have gen : ∀ G Z' H ks vs, Sub Z Z' → S3 X.K G Z' H ks vs r s → RT X.K Z' H t v := fun G Z' H ks vs _ st' => by
    obtain ⟨v', ev', rt'⟩ := st'.slot i t e
    rw [ev] at ev'; cases ev'
    exact rt'
  cases t with
  | d x => cases rt with | d h => exact h
  | v x => cases rt; rfl
  | sc a ns => cases rt with | sc h => exact ⟨rfl, h⟩
  | own a l => exact gen
  | tp l => exact gen
/-- a name whose own list is moved away -/
def xMove (i : Nat) : TE3 := fun r Q => match r[i]? with | some (some (.d x)) => Q (.d x) r | some (some (.v x)) => Q (.v x) r | some (some (.sc a ns)) => Q (.sc a ns) r | some (some t) => Q t (r.set i none) | _ => False
theorem p3_move (i : Nat) {x : Str} (hN : X.N[i]? = some x := by rfl) (hv : Vis X.env.scope x := by first | exact Or.inl rfl | exact Or.inr (Or.inl rfl) | exact Or.inr (Or.inr rfl)) (hd : (x == ("__debug__" : Str)) = false := by decide)
    (hcd : (x == ("__classdict__" : Str)) = false := by decide) : P3 X (.Name x pos) (xMove i) := by
  refine ⟨tVar i, pe_var hN hv hd hcd, fun G Z H ks vs r s Q Q3 st ht k => ?_⟩
  unfold xMove at ht
  split at ht
  · rename_i x e
    obtain ⟨v, ev, rt⟩ := st.slot i _ e
    exact ⟨v, ev, k Z H _ v r (Gr.refl _ _) (st.push (fun _ => rfl) rt) ht⟩
  · rename_i x e
    obtain ⟨v, ev, rt⟩ := st.slot i _ e
    exact ⟨v, ev, k Z H _ v r (Gr.refl _ _) (st.push (fun _ => rfl) rt) ht⟩
  · rename_i a ns e
    obtain ⟨v, ev, rt⟩ := st.slot i _ e
    exact ⟨v, ev, k Z H _ v r (Gr.refl _ _) (st.push (fun _ => rfl) rt) ht⟩
  · rename_i t _ _ _ e
    obtain ⟨v, ev, st'⟩ := st.take e
    exact ⟨v, ev, k Z H _ v _ (Gr.refl _ _) st' ht⟩
  · exact ht.elim
def xC (x : PyData) : TE3 := fun r Q => Q (.d x) r
theorem r3_int {i : Int} {j} : R3 X (.Constant (.int i) j pos) (xC (.int i)) := ⟨_, pe_int, fun G Z H ks vs r s Q Q3 st ht k => k Z H (.d (.int i)) _ r (Gr.refl _ _) st (Dq.int i) ht⟩
theorem r3_bool {i : Bool} {j} : R3 X (.Constant (.bool i) j pos) (xC (.bool i)) := ⟨_, pe_bl, fun G Z H ks vs r s Q Q3 st ht k => k Z H (.d (.bool i)) _ r (Gr.refl _ _) st (Dq.bl i) ht⟩
theorem r3_none {j} : R3 X (.Constant .none j pos) (xC .none) := ⟨_, pe_non, fun G Z H ks vs r s Q Q3 st ht k => k Z H (.d .none) _ r (Gr.refl _ _) st Dq.non ht⟩
theorem r3_str {i : Str} {j} : R3 X (.Constant (.str i) j pos) (xC (.str i)) := ⟨_, pe_str, fun G Z H ks vs r s Q Q3 st ht k => k Z H (.d (.str i)) _ r (Gr.refl _ _) st (Dq.str i) ht⟩
/-- a constant of the module -/
theorem r3_globI {x : Str} {i : Int} {u : Value} (hg : Gl X x) (hm : X.mg x = some u) (rv : RelV (.int i) u) (hd : (x == ("__debug__" : Str)) = false := by decide) : R3 X (.Name x pos) (xC (.int i)) :=
  ⟨_, pe_glob hg hm rv hd, fun G Z H ks vs r s Q Q3 st ht k => k Z H (.d (.int i)) _ r (Gr.refl _ _) st (Dq.int i) ht⟩
theorem r3_globS {x : Str} {i : Str} {u : Value} (hg : Gl X x) (hm : X.mg x = some u) (rv : RelV (.str i) u) (hd : (x == ("__debug__" : Str)) = false := by decide) : R3 X (.Name x pos) (xC (.str i)) :=
  ⟨_, pe_glob hg hm rv hd, fun G Z H ks vs r s Q Q3 st ht k => k Z H (.d (.str i)) _ r (Gr.refl _ _) st (Dq.str i) ht⟩

/-! ### two operands -/
/-- what is made of two values read: the state ahead of the second one's reading, both, the state -/
abbrev C2 := Rho → T → T → TE3
def x2 (c : C2) (ta tb : TE3) : TE3 := fun r Q => ta r fun x r1 => tb r1 fun y r2 => c r1 x y r2 Q
def Con2 (X : Cx) (rd : R2) (c : C2) : Prop := ∀ (G Z H : Hp) (ks : List T) (vs : List V) (r1 r : Rho) (s : L2.St) (x y : V) (tx ty : T) (Q : VK) (Q3 : T → Rho → Prop), S3 X.K G Z H ks vs r s → Pv2 X.K Z r1 r s tx x → Pv X.K Z r s ty y → c r1 tx ty r Q3 →
  (∀ Z' H' t v r', Gr G Z Z' → S3 X.K G Z' H' ks vs r' s → Pv X.K Z' r' s t v → Q3 t r' → Q v H') → rd x y H Q
def Con2P (X : Cx) (rd : R2) (c : C2) : Prop := ∀ (G Z H : Hp) (ks : List T) (vs : List V) (r1 r : Rho) (s : L2.St) (x y : V) (tx ty : T) (Q : VK) (Q3 : T → Rho → Prop), S3 X.K G Z H ks vs r s → Pv2 X.K Z r1 r s tx x → Pv X.K Z r s ty y → c r1 tx ty r Q3 →
  (∀ Z' H' t v r', Gr G Z Z' → S3 X.K G Z' H' (t :: ks) (v :: vs) r' s → Q3 t r' → Q v H') → rd x y H Q
theorem two_run {rd : R2} {c : C2} (hc : Con2 X rd c) {tea teb : TE} (ha : ∀ (G Z H : Hp) (ks : List T) (vs : List V) (r : Rho) (s : L2.St) (Q : VK) (Q3 : T → Rho → Prop), S3 X.K G Z H ks vs r s → ta r Q3 →
    (∀ Z' H' x v r', Gr G Z Z' → S3 X.K G Z' H' ks vs r' s → Pv X.K Z' r' s x v → Q3 x r' → Q v H') → tea s H Q)
    (hb : ∀ (G Z H : Hp) (ks : List T) (vs : List V) (r : Rho) (s : L2.St) (Q : VK) (Q3 : T → Rho → Prop), S3 X.K G Z H ks vs r s → tb r Q3 →
    (∀ Z' H' x v r', Gr G Z Z' → S3 X.K G Z' H' ks vs r' s → Pv X.K Z' r' s x v → Q3 x r' → Q v H') → teb s H Q) :
    ∀ (G Z H : Hp) (ks : List T) (vs : List V) (r : Rho) (s : L2.St) (Q : VK) (Q3 : T → Rho → Prop), S3 X.K G Z H ks vs r s → x2 c ta tb r Q3 →
    (∀ Z' H' x v r', Gr G Z Z' → S3 X.K G Z' H' ks vs r' s → Pv X.K Z' r' s x v → Q3 x r' → Q v H') → tOp rd tea teb s H Q :=
  fun G Z H ks vs r s Q Q3 st ht k => ha G Z H ks vs r s _ _ st ht fun Z1 H1 x v r1 g1 st1 p1 q1 => hb G Z1 H1 ks vs r1 s _ _ st1 q1 fun Z2 H2 y u r2 g2 st2 p2 q2 =>
    hc G Z2 H2 ks vs r1 r2 s v u x y Q Q3 st2 (p1.two g2.sub) p2 q2 fun Z3 H3 t w r3 g3 => k Z3 H3 t w r3 ((g1.trans g2).trans g3)
theorem r3_op {op : Operator} {rd : R2} {c : C2} (ho : OpR X (binaryOp op) rd) (hc : Con2 X rd c) (ha : R3 X a ta) (hb : R3 X b tb) : R3 X (.BinOp a op b pos) (x2 c ta tb) := by
  obtain ⟨tea, ea, sa⟩ := ha.ex
  obtain ⟨teb, eb, sb⟩ := hb.ex
  exact ⟨_, pe_op ho ea eb, two_run hc sa sb⟩
theorem p3_op {op : Operator} {rd : R2} {c : C2} (ho : OpR X (binaryOp op) rd) (hc : Con2P X rd c) (ha : R3 X a ta) (hb : R3 X b tb) : P3 X (.BinOp a op b pos) (x2 c ta tb) := by
  obtain ⟨tea, ea, sa⟩ := ha.ex
  obtain ⟨teb, eb, sb⟩ := hb.ex
  exact ⟨_, pe_op ho ea eb, fun G Z H ks vs r s Q Q3 st ht k => sa G Z H ks vs r s _ _ st ht fun Z1 H1 x v r1 g1 st1 p1 q1 => sb G Z1 H1 ks vs r1 s _ _ st1 q1 fun Z2 H2 y u r2 g2 st2 p2 q2 =>
    hc G Z2 H2 ks vs r1 r2 s v u x y Q Q3 st2 (p1.two g2.sub) p2 q2 fun Z3 H3 t w r3 g3 => k Z3 H3 t w r3 ((g1.trans g2).trans g3)⟩
theorem r3_cmp {op : CmpOp} {rd : R2} {c : C2} (ho : OpR X (compareOp op) rd) (hc : Con2 X rd c) (ha : R3 X a ta) (hb : R3 X b tb) (hm : behindInMarks op b = false) : R3 X (.Compare a [op] [b] pos) (x2 c ta tb) := by
  obtain ⟨tea, ea, sa⟩ := ha.ex
  obtain ⟨teb, eb, sb⟩ := hb.ex
  exact ⟨_, pe_cmpR ho ea eb hm, two_run hc sa sb⟩
/-- a value that is a truth, as a test -/
def xTest (t : TE3) : TT3 := fun r Q => t r fun x r' => asB x fun b => Q b r'
theorem t3_cmp {op : CmpOp} {rd : R2} {c : C2} (ho : OpR X (compareOp op) rd) (hc : Con2 X rd c) (ha : R3 X a ta) (hb : R3 X b tb) (hm : behindInMarks op b = false) : T3 X (.Compare a [op] [b] pos) (xTest (x2 c ta tb)) := by
  obtain ⟨tea, ea, sa⟩ := ha.ex
  obtain ⟨teb, eb, sb⟩ := hb.ex
  refine ⟨_, pt_cmpR ho ea eb hm, fun G Z H ks vs r s Q Q3 st ht k => two_run hc sa sb G Z H ks vs r s _ _ st ht fun Z' H' x v r' g st' pv q => ?_⟩
  obtain ⟨b, rfl, q⟩ := asB_of q
  exact ⟨b, pv.bool, k Z' H' b r' g st' q⟩
theorem t3_val (h : R3 X e t) (he : ∀ whole, isTrue e X.env whole = (do let v ← whole; standAt e.pos; holding [v] (truthy v)) := by intro _; rfl) : T3 X e (xTest t) := by
  obtain ⟨te, ea, sa⟩ := h.ex
  refine ⟨_, pt_val ea he, fun G Z H ks vs r s Q Q3 st ht k => sa G Z H ks vs r s _ _ st ht fun Z' H' x v r' g st' pv q => ?_⟩
  obtain ⟨b, rfl, q⟩ := asB_of q
  exact ⟨b, pv.bool, k Z' H' b r' g st' q⟩

/-- two ints -/
def cI (C : Int → Int → Prop) (g : Int → Int → PyData) : C2 := fun _ x y r Q => asI x fun i => asI y fun j => C i j ∧ Q (.d (g i j)) r
def isScal : PyData → V → Prop
  | .int i, v => v = .int i
  | .bool b, v => v = .bl b
  | _, _ => False
theorem isScal.dp {K : PySem.W.Frag} {Z : Hp} {x : PyData} {v : V} (h : isScal x v) : Dq K Z v x := by
  cases x with
  | int i => rw [show v = .int i from h]; exact .int i
  | bool b => rw [show v = .bl b from h]; exact .bl b
  | none => exact False.elim h
  | str _ => exact False.elim h
  | list _ => exact False.elim h
  | tuple _ => exact False.elim h
  | dict _ => exact False.elim h
theorem con_I {C C' : Int → Int → Prop} {g : Int → Int → PyData} {g' : Int → Int → V} (hC : ∀ i j, C i j → C' i j) (hg : ∀ i j, C i j → isScal (g i j) (g' i j)) : Con2 X (rI C' g') (cI C g) :=
  fun G Z H ks vs r1 r s x y tx ty Q Q3 st px py hc k => by
    obtain ⟨i, rfl, h1⟩ := asI_of hc
    obtain ⟨j, rfl, h2, q⟩ := asI_of h1
    exact ⟨i, j, px.int, py.int, hC i j h2, k Z H (.d (g i j)) _ r (Gr.refl _ _) st (hg i j h2).dp q⟩
def cI0 (g : Int → Int → PyData) : C2 := fun _ x y r Q => asI x fun i => asI y fun j => Q (.d (g i j)) r
theorem con_I0 {g : Int → Int → PyData} {g' : Int → Int → V} (hg : ∀ i j, isScal (g i j) (g' i j)) : Con2 X (rI0 g') (cI0 g) :=
  fun G Z H ks vs r1 r s x y tx ty Q Q3 st px py hc k => by
    obtain ⟨i, rfl, h1⟩ := asI_of hc
    obtain ⟨j, rfl, q⟩ := asI_of h1
    exact ⟨i, j, px.int, py.int, k Z H (.d (g i j)) _ r (Gr.refl _ _) st (hg i j).dp q⟩
/-- two factors: one is small, or both are not too long -/
def MulOk (i j : Int) : Prop := CMul i j ∨ CMulW i j
theorem MulOk.ok {i j : Int} (h : MulOk i j) : IntMulOk i j := h.elim CMul.ok CMulW.ok
theorem op_mul3 : OpR X (binaryOp .Mult) (rI MulOk fun i j => .int (i * j)) := opI fun _ _ _ _ _ _ _ hc q => mul_int q hc.ok
theorem r3_add (ha : R3 X a ta) (hb : R3 X b tb) : R3 X (.BinOp a .Add b pos) (x2 (cI0 fun i j => .int (i + j)) ta tb) := r3_op op_add (con_I0 fun _ _ => rfl) ha hb
theorem r3_sub (ha : R3 X a ta) (hb : R3 X b tb) : R3 X (.BinOp a .Sub b pos) (x2 (cI0 fun i j => .int (i - j)) ta tb) := r3_op op_sub (con_I0 fun _ _ => rfl) ha hb
theorem r3_mul (ha : R3 X a ta) (hb : R3 X b tb) : R3 X (.BinOp a .Mult b pos) (x2 (cI MulOk fun i j => .int (i * j)) ta tb) := r3_op op_mul3 (con_I (fun _ _ h => h) fun _ _ _ => rfl) ha hb
theorem r3_fdiv (ha : R3 X a ta) (hb : R3 X b tb) : R3 X (.BinOp a .FloorDiv b pos) (x2 (cI CDivW fun i j => .int (i / j)) ta tb) := r3_op op_fdivW (con_I (fun _ _ h => h) fun _ _ _ => rfl) ha hb
theorem r3_mod (ha : R3 X a ta) (hb : R3 X b tb) : R3 X (.BinOp a .Mod b pos) (x2 (cI (fun _ j => 0 < j) fun i j => .int (i % j)) ta tb) := r3_op op_mod (con_I (fun _ _ h => h) fun _ _ _ => rfl) ha hb
theorem r3_pow (ha : R3 X a ta) (hb : R3 X b tb) : R3 X (.BinOp a .Pow b pos) (x2 (cI CPow fun i j => .int (i ^ j.toNat)) ta tb) := r3_op op_pow (con_I (fun _ _ h => h) fun _ _ _ => rfl) ha hb
theorem r3_shl (ha : R3 X a ta) (hb : R3 X b tb) : R3 X (.BinOp a .LShift b pos) (x2 (cI CPow fun i j => .int (i * 2 ^ j.toNat)) ta tb) := r3_op op_shl (con_I (fun _ _ h => h) fun _ _ _ => rfl) ha hb
theorem con_cmp {p : Int → Int → Bool} : Con2 X (rI0 fun i j => .bl (p i j)) (cI0 fun i j => .bool (p i j)) := con_I0 fun _ _ => rfl
theorem r3_lt (ha : R3 X a ta) (hb : R3 X b tb) : R3 X (.Compare a [.Lt] [b] pos) (x2 (cI0 fun i j => .bool (decide (i < j))) ta tb) := r3_cmp op_lt con_cmp ha hb (nomark _)
theorem r3_le (ha : R3 X a ta) (hb : R3 X b tb) : R3 X (.Compare a [.LtE] [b] pos) (x2 (cI0 fun i j => .bool (decide (i ≤ j))) ta tb) := r3_cmp op_le con_cmp ha hb (nomark _)
theorem r3_gt (ha : R3 X a ta) (hb : R3 X b tb) : R3 X (.Compare a [.Gt] [b] pos) (x2 (cI0 fun i j => .bool (decide (j < i))) ta tb) := r3_cmp op_gt con_cmp ha hb (nomark _)
theorem r3_ge (ha : R3 X a ta) (hb : R3 X b tb) : R3 X (.Compare a [.GtE] [b] pos) (x2 (cI0 fun i j => .bool (decide (j ≤ i))) ta tb) := r3_cmp op_ge con_cmp ha hb (nomark _)
theorem t3_lt (ha : R3 X a ta) (hb : R3 X b tb) : T3 X (.Compare a [.Lt] [b] pos) (xTest (x2 (cI0 fun i j => .bool (decide (i < j))) ta tb)) := t3_cmp op_lt con_cmp ha hb (nomark _)
theorem t3_le (ha : R3 X a ta) (hb : R3 X b tb) : T3 X (.Compare a [.LtE] [b] pos) (xTest (x2 (cI0 fun i j => .bool (decide (i ≤ j))) ta tb)) := t3_cmp op_le con_cmp ha hb (nomark _)
theorem t3_gt (ha : R3 X a ta) (hb : R3 X b tb) : T3 X (.Compare a [.Gt] [b] pos) (xTest (x2 (cI0 fun i j => .bool (decide (j < i))) ta tb)) := t3_cmp op_gt con_cmp ha hb (nomark _)
theorem t3_ge (ha : R3 X a ta) (hb : R3 X b tb) : T3 X (.Compare a [.GtE] [b] pos) (xTest (x2 (cI0 fun i j => .bool (decide (j ≤ i))) ta tb)) := t3_cmp op_ge con_cmp ha hb (nomark _)
/-- == of data (lists of one's own are read) -/
def asF (r1 r : Rho) (t : T) (k : PyData → Prop) : Prop := match t with | .d x => k x | .v _ => False | .sc _ _ => False | t => r = r1 ∧ nv t = true ∧ k (fz t)
theorem asF_d (r1 r : Rho) (x : PyData) (k : PyData → Prop) : asF r1 r (.d x) k = k x := rfl
theorem asF_of {K : PySem.W.Frag} {G Z H : Hp} {ks : List T} {vs : List V} {r1 r : Rho} {s : L2.St} {t : T} {v : V} {k : PyData → Prop} (h : asF r1 r t k) (st : S3 K G Z H ks vs r s) (p : Pv2 K Z r1 r s t v) : ∃ x, (x.canLay0 = true → Dp K H v x) ∧ k x := by
  cases t with
  | d x => exact ⟨x, fun c => dq_dp _ _ c (dp_mono st.zh x v (p.dat x rfl)), h⟩
  | v x => exact h.elim
  | sc _ _ => exact h.elim
  | own a l => exact ⟨_, fun c => dq_dp _ _ c ((p.same h.1).data st h.2.1), h.2.2⟩
  | tp l => exact ⟨_, fun c => dq_dp _ _ c ((p.same h.1).data st h.2.1), h.2.2⟩
theorem Pv.self {K : PySem.W.Frag} {Z : Hp} {r : Rho} {s : L2.St} {t : T} {v : V} (h : Pv K Z r s t v) : Pv2 K Z r r s t v := h.two (Sub.refl _)
def cEq (g : Bool → Bool) : C2 := fun r1 x y r Q => asF r1 r x fun d => asF r r y fun e => SeqAt.shaped d = true ∧ SeqAt.shaped e = true ∧ Q (.d (.bool (g (PyData.eqv d e)))) r
theorem con_eq : Con2 X (rEqD X.K) (cEq fun b => b) := fun G Z H ks vs r1 r s x y tx ty Q Q3 st px py hc k => by
  obtain ⟨d, hd, hc⟩ := asF_of hc st px
  obtain ⟨e, he, h1, h2, q⟩ := asF_of hc st py.self
  exact ⟨d, e, hd (SeqAt.canLay_of_shaped h1), he (SeqAt.canLay_of_shaped h2), h1, h2, k Z H (.d (.bool _)) _ r (Gr.refl _ _) st (Dq.bl _) q⟩
theorem con_ne : Con2 X (rNeD X.K) (cEq fun b => !b) := fun G Z H ks vs r1 r s x y tx ty Q Q3 st px py hc k => by
  obtain ⟨d, hd, hc⟩ := asF_of hc st px
  obtain ⟨e, he, h1, h2, q⟩ := asF_of hc st py.self
  exact ⟨d, e, hd (SeqAt.canLay_of_shaped h1), he (SeqAt.canLay_of_shaped h2), h1, h2, k Z H (.d (.bool _)) _ r (Gr.refl _ _) st (Dq.bl _) q⟩
theorem r3_eq (hu : X.A.units + 64 < cLine) (ha : R3 X a ta) (hb : R3 X b tb) : R3 X (.Compare a [.Eq] [b] pos) (x2 (cEq fun b => b) ta tb) := r3_cmp (op_eqD hu) con_eq ha hb (nomark _)
theorem r3_ne (hu : X.A.units + 64 < cLine) (ha : R3 X a ta) (hb : R3 X b tb) : R3 X (.Compare a [.NotEq] [b] pos) (x2 (cEq fun b => !b) ta tb) := r3_cmp (op_neD hu) con_ne ha hb (nomark _)
theorem t3_eq (hu : X.A.units + 64 < cLine) (ha : R3 X a ta) (hb : R3 X b tb) : T3 X (.Compare a [.Eq] [b] pos) (xTest (x2 (cEq fun b => b) ta tb)) := t3_cmp (op_eqD hu) con_eq ha hb (nomark _)
theorem t3_ne (hu : X.A.units + 64 < cLine) (ha : R3 X a ta) (hb : R3 X b tb) : T3 X (.Compare a [.NotEq] [b] pos) (xTest (x2 (cEq fun b => !b) ta tb)) := t3_cmp (op_neD hu) con_ne ha hb (nomark _)
/-- == of two ints, without further ado -/
def cEqI (g : Bool → Bool) : C2 := fun _ x y r Q => asI x fun i => asI y fun j => Q (.d (.bool (g (decide (i = j))))) r
theorem con_eqI : Con2 X rEq (cEqI fun b => b) := fun G Z H ks vs r1 r s x y tx ty Q Q3 st px py hc k => by
  obtain ⟨i, rfl, hc1⟩ := asI_of hc
  obtain ⟨j, rfl, q⟩ := asI_of hc1
  cases px.int
  cases py.int
  refine ⟨rfl, k Z H _ _ r (Gr.refl _ _) st ?_ q⟩
  have e : decide (V.int i = V.int j) = decide (i = j) := by
    rw [dec_int]; exact Bool.beq_eq_decide_eq i j
  show Dq X.K Z _ _
  rw [e]
  exact .bl _
theorem con_neI : Con2 X rNe (cEqI fun b => !b) := fun G Z H ks vs r1 r s x y tx ty Q Q3 st px py hc k => by
  obtain ⟨i, rfl, hc1⟩ := asI_of hc
  obtain ⟨j, rfl, q⟩ := asI_of hc1
  cases px.int
  cases py.int
  refine ⟨rfl, k Z H _ _ r (Gr.refl _ _) st ?_ q⟩
  have e : decide (V.int i = V.int j) = decide (i = j) := by
    rw [dec_int]; exact Bool.beq_eq_decide_eq i j
  show Dq X.K Z _ _
  rw [e]
  exact .bl _
theorem r3_eqI (ha : R3 X a ta) (hb : R3 X b tb) : R3 X (.Compare a [.Eq] [b] pos) (x2 (cEqI fun b => b) ta tb) := r3_cmp op_eq con_eqI ha hb (nomark _)
theorem r3_neI (ha : R3 X a ta) (hb : R3 X b tb) : R3 X (.Compare a [.NotEq] [b] pos) (x2 (cEqI fun b => !b) ta tb) := r3_cmp op_ne con_neI ha hb (nomark _)
theorem t3_eqI (ha : R3 X a ta) (hb : R3 X b tb) : T3 X (.Compare a [.Eq] [b] pos) (xTest (x2 (cEqI fun b => b) ta tb)) := t3_cmp op_eq con_eqI ha hb (nomark _)
theorem t3_neI (ha : R3 X a ta) (hb : R3 X b tb) : T3 X (.Compare a [.NotEq] [b] pos) (xTest (x2 (cEqI fun b => !b) ta tb)) := t3_cmp op_ne con_neI ha hb (nomark _)
/-- is None -/
def isN : T → Bool
  | .d .none => true
  | .v x => decide (x = V.non)
  | _ => false
def plainT : T → Prop
  | .d _ => True
  | .v _ => True
  | _ => False
def cIsN (g : Bool → Bool) : C2 := fun _ x y r Q => (match y with | .d .none => plainT x ∧ Q (.d (.bool (g (isN x)))) r | _ => False)
theorem cIsN_of {g : Bool → Bool} {r1 r : Rho} {x y : T} {Q : T → Rho → Prop} (h : cIsN g r1 x y r Q) : y = .d .none ∧ plainT x ∧ Q (.d (.bool (g (isN x)))) r := by
  unfold cIsN at h
  split at h
  · exact ⟨rfl, h⟩
  · exact h.elim
theorem isN_of {K : PySem.W.Frag} {Z : Hp} {r1 r : Rho} {s : L2.St} {t : T} {v : V} (h : plainT t) (p : Pv2 K Z r1 r s t v) : decide (v = V.non) = isN t := by
  cases t with
  | v x => rw [p.val x rfl]; rfl
  | d x =>
    have q := p.dat x rfl
    cases q <;> rfl
  | sc _ _ => exact h.elim
  | own _ _ => exact h.elim
  | tp _ => exact h.elim
theorem con_isN : Con2 X (fun x y H Q => y = .non ∧ Q (.bl (decide (x = .non))) H) (cIsN fun b => b) := fun G Z H ks vs r1 r s x y tx ty Q Q3 st px py hc k => by
  obtain ⟨rfl, h1, q⟩ := cIsN_of hc
  refine ⟨by cases (show Dq X.K Z y .none from py); rfl, k Z H (.d (.bool _)) _ r (Gr.refl _ _) st ?_ q⟩
  show Dq X.K Z _ _
  rw [isN_of h1 px]
  exact .bl _
theorem con_notN : Con2 X (fun x y H Q => y = .non ∧ Q (.bl (!decide (x = .non))) H) (cIsN fun b => !b) := fun G Z H ks vs r1 r s x y tx ty Q Q3 st px py hc k => by
  obtain ⟨rfl, h1, q⟩ := cIsN_of hc
  refine ⟨by cases (show Dq X.K Z y .none from py); rfl, k Z H (.d (.bool _)) _ r (Gr.refl _ _) st ?_ q⟩
  show Dq X.K Z _ _
  rw [isN_of h1 px]
  exact .bl _
theorem r3_isN (ha : R3 X a ta) (hb : R3 X b tb) : R3 X (.Compare a [.Is] [b] pos) (x2 (cIsN fun b => b) ta tb) := r3_cmp op_isN con_isN ha hb (nomark _)
theorem r3_notN (ha : R3 X a ta) (hb : R3 X b tb) : R3 X (.Compare a [.IsNot] [b] pos) (x2 (cIsN fun b => !b) ta tb) := r3_cmp op_notN con_notN ha hb (nomark _)
theorem t3_isN (ha : R3 X a ta) (hb : R3 X b tb) : T3 X (.Compare a [.Is] [b] pos) (xTest (x2 (cIsN fun b => b) ta tb)) := t3_cmp op_isN con_isN ha hb (nomark _)
theorem t3_notN (ha : R3 X a ta) (hb : R3 X b tb) : T3 X (.Compare a [.IsNot] [b] pos) (xTest (x2 (cIsN fun b => !b) ta tb)) := t3_cmp op_notN con_notN ha hb (nomark _)

/-! ### not, and, or; a chain of two comparisons; a if t else b; -a -/
variable {tt uu : TT3} {rest : List Expr}
def xNot (t : TT3) : TT3 := fun r Q => t r fun b r' => Q (!b) r'
theorem t3_not (ha : T3 X a tt) : T3 X (.UnaryOp .Not a pos) (xNot tt) := by
  obtain ⟨te, ea, sa⟩ := ha.ex
  exact ⟨_, pt_not ea, fun G Z H ks vs r s Q Q3 st ht k => sa G Z H ks vs r s _ _ st ht fun Z' H' b r' g st' q => k Z' H' (!b) r' g st' q⟩
def xAnd (t u : TT3) : TT3 := fun r Q => t r fun b r' => (b = true → u r' Q) ∧ (b = false → Q false r')
def xOr (t u : TT3) : TT3 := fun r Q => t r fun b r' => (b = true → Q true r') ∧ (b = false → u r' Q)
theorem w3_and1 (ha : T3 X a tt) : W3 X (.BoolOp .And [a] pos) tt := by
  obtain ⟨te, ea, sa⟩ := ha.ex
  exact ⟨_, pw_and1 ea, sa⟩
theorem w3_or1 (ha : T3 X a tt) : W3 X (.BoolOp .Or [a] pos) tt := by
  obtain ⟨te, ea, sa⟩ := ha.ex
  exact ⟨_, pw_or1 ea, sa⟩
theorem w3_and (ha : T3 X a tt) (hb : W3 X (.BoolOp .And (b :: rest) pos) uu) : W3 X (.BoolOp .And (a :: b :: rest) pos) (xAnd tt uu) := by
  obtain ⟨tea, ea, sa⟩ := ha.ex
  obtain ⟨teb, eb, sb⟩ := hb.ex
  refine ⟨_, pw_and ea eb, fun G Z H ks vs r s Q Q3 st ht k => sa G Z H ks vs r s _ _ st ht fun Z' H' c r' g st' q => ?_⟩
  cases c with
  | true => exact sb G Z' H' ks vs r' s Q Q3 st' (q.1 rfl) fun Z2 H2 d r2 g2 => k Z2 H2 d r2 (g.trans g2)
  | false => exact k Z' H' false r' g st' (q.2 rfl)
theorem w3_or (ha : T3 X a tt) (hb : W3 X (.BoolOp .Or (b :: rest) pos) uu) : W3 X (.BoolOp .Or (a :: b :: rest) pos) (xOr tt uu) := by
  obtain ⟨tea, ea, sa⟩ := ha.ex
  obtain ⟨teb, eb, sb⟩ := hb.ex
  refine ⟨_, pw_or ea eb, fun G Z H ks vs r s Q Q3 st ht k => sa G Z H ks vs r s _ _ st ht fun Z' H' c r' g st' q => ?_⟩
  cases c with
  | false => exact sb G Z' H' ks vs r' s Q Q3 st' (q.2 rfl) fun Z2 H2 d r2 g2 => k Z2 H2 d r2 (g.trans g2)
  | true => exact k Z' H' true r' g st' (q.1 rfl)
theorem t3_w (ha : W3 X a tt) : T3 X a tt := by
  obtain ⟨te, ea, sa⟩ := ha.ex
  exact ⟨_, ea.pt, sa⟩
/-- .. as values: truths -/
def xAndV (t u : TE3) : TE3 := fun r Q => t r fun x r' => asB x fun b => (b = true → u r' Q) ∧ (b = false → Q (.d (.bool false)) r')
def xOrV (t u : TE3) : TE3 := fun r Q => t r fun x r' => asB x fun b => (b = true → Q (.d (.bool true)) r') ∧ (b = false → u r' Q)
theorem r3_one {op : BoolOp} (ha : R3 X a ta) : R3 X (.BoolOp op [a] pos) ta := by
  obtain ⟨te, ea, sa⟩ := ha.ex
  exact ⟨_, pe_one ea, sa⟩
theorem r3_and (ha : R3 X a ta) (hb : R3 X (.BoolOp .And (b :: rest) pos) tb) : R3 X (.BoolOp .And (a :: b :: rest) pos) (xAndV ta tb) := by
  obtain ⟨tea, ea, sa⟩ := ha.ex
  obtain ⟨teb, eb, sb⟩ := hb.ex
  refine ⟨_, pe_and ea eb, fun G Z H ks vs r s Q Q3 st ht k => sa G Z H ks vs r s _ _ st ht fun Z' H' x v r' g st' pv q => ?_⟩
  obtain ⟨c, rfl, q⟩ := asB_of q
  refine ⟨c, pv.bool, ?_⟩
  cases c with
  | true => exact sb G Z' H' ks vs r' s Q Q3 st' (q.1 rfl) fun Z2 H2 d v2 r2 g2 => k Z2 H2 d v2 r2 (g.trans g2)
  | false => exact k Z' H' (.d (.bool false)) _ r' g st' (Dq.bl _) (q.2 rfl)
theorem r3_or (ha : R3 X a ta) (hb : R3 X (.BoolOp .Or (b :: rest) pos) tb) : R3 X (.BoolOp .Or (a :: b :: rest) pos) (xOrV ta tb) := by
  obtain ⟨tea, ea, sa⟩ := ha.ex
  obtain ⟨teb, eb, sb⟩ := hb.ex
  refine ⟨_, pe_or ea eb, fun G Z H ks vs r s Q Q3 st ht k => sa G Z H ks vs r s _ _ st ht fun Z' H' x v r' g st' pv q => ?_⟩
  obtain ⟨c, rfl, q⟩ := asB_of q
  refine ⟨c, pv.bool, ?_⟩
  cases c with
  | false => exact sb G Z' H' ks vs r' s Q Q3 st' (q.2 rfl) fun Z2 H2 d v2 r2 g2 => k Z2 H2 d v2 r2 (g.trans g2)
  | true => exact k Z' H' (.d (.bool true)) _ r' g st' (Dq.bl _) (q.1 rfl)
def xNotV (t : TE3) : TE3 := fun r Q => t r fun x r' => asB x fun b => Q (.d (.bool (!b))) r'
theorem r3_not (ha : R3 X a ta) : R3 X (.UnaryOp .Not a pos) (xNotV ta) := by
  obtain ⟨te, ea, sa⟩ := ha.ex
  refine ⟨_, pe_not ea, fun G Z H ks vs r s Q Q3 st ht k => sa G Z H ks vs r s _ _ st ht fun Z' H' x v r' g st' pv q => ?_⟩
  obtain ⟨c, rfl, q⟩ := asB_of q
  exact ⟨c, pv.bool, k Z' H' (.d (.bool (!c))) _ r' g st' (Dq.bl _) q⟩
def xIf (t : TT3) (ta tb : TE3) : TE3 := fun r Q => t r fun c r' => (c = true → ta r' Q) ∧ (c = false → tb r' Q)
theorem r3_if (hc : T3 X c tt) (ha : R3 X a ta) (hb : R3 X b tb) : R3 X (.IfExp c a b pos) (xIf tt ta tb) := by
  obtain ⟨tec, ec, sc⟩ := hc.ex
  obtain ⟨tea, ea, sa⟩ := ha.ex
  obtain ⟨teb, eb, sb⟩ := hb.ex
  refine ⟨_, pe_ifExp ec ea eb, fun G Z H ks vs r s Q Q3 st ht k => sc G Z H ks vs r s _ _ st ht fun Z' H' d r' g st' q => ?_⟩
  cases d with
  | true => exact sa G Z' H' ks vs r' s Q Q3 st' (q.1 rfl) fun Z2 H2 x v r2 g2 => k Z2 H2 x v r2 (g.trans g2)
  | false => exact sb G Z' H' ks vs r' s Q Q3 st' (q.2 rfl) fun Z2 H2 x v r2 g2 => k Z2 H2 x v r2 (g.trans g2)
theorem p3_if (hc : T3 X c tt) (ha : P3 X a ta) (hb : P3 X b tb) : P3 X (.IfExp c a b pos) (xIf tt ta tb) := by
  obtain ⟨tec, ec, sc⟩ := hc.ex
  obtain ⟨tea, ea, sa⟩ := ha.ex
  obtain ⟨teb, eb, sb⟩ := hb.ex
  refine ⟨_, pe_ifExp ec ea eb, fun G Z H ks vs r s Q Q3 st ht k => sc G Z H ks vs r s _ _ st ht fun Z' H' d r' g st' q => ?_⟩
  cases d with
  | true => exact sa G Z' H' ks vs r' s Q Q3 st' (q.1 rfl) fun Z2 H2 x v r2 g2 => k Z2 H2 x v r2 (g.trans g2)
  | false => exact sb G Z' H' ks vs r' s Q Q3 st' (q.2 rfl) fun Z2 H2 x v r2 g2 => k Z2 H2 x v r2 (g.trans g2)
def xNeg (t : TE3) : TE3 := fun r Q => t r fun x r' => asI x fun i => Q (.d (.int (-i))) r'
theorem r3_neg (ha : R3 X a ta) : R3 X (.UnaryOp .USub a pos) (xNeg ta) := by
  obtain ⟨te, ea, sa⟩ := ha.ex
  refine ⟨_, pe_un un_neg ea, fun G Z H ks vs r s Q Q3 st ht k => sa G Z H ks vs r s _ _ st ht fun Z' H' x v r' g st' pv q => ?_⟩
  obtain ⟨c, rfl, q⟩ := asI_of q
  exact ⟨c, pv.int, k Z' H' (.d (.int (-c))) _ r' g st' (Dq.int _) q⟩
/-- a op b op c of ints -/
def xChain (p q : Int → Int → Bool) (ta tb tc : TE3) : TE3 := fun r Q => ta r fun x r1 => tb r1 fun y r2 => asI x fun i => asI y fun j => (p i j = true → tc r2 fun z r3 => asI z fun l => Q (.d (.bool (q j l))) r3) ∧ (p i j = false → Q (.d (.bool false)) r2)
theorem chain_run {p q : Int → Int → Bool} {tea teb tec : TE} (ha : ∀ (G Z H : Hp) (ks : List T) (vs : List V) (r : Rho) (s : L2.St) (Q : VK) (Q3 : T → Rho → Prop), S3 X.K G Z H ks vs r s → ta r Q3 →
    (∀ Z' H' x v r', Gr G Z Z' → S3 X.K G Z' H' ks vs r' s → Pv X.K Z' r' s x v → Q3 x r' → Q v H') → tea s H Q)
    (hb : ∀ (G Z H : Hp) (ks : List T) (vs : List V) (r : Rho) (s : L2.St) (Q : VK) (Q3 : T → Rho → Prop), S3 X.K G Z H ks vs r s → tb r Q3 →
    (∀ Z' H' x v r', Gr G Z Z' → S3 X.K G Z' H' ks vs r' s → Pv X.K Z' r' s x v → Q3 x r' → Q v H') → teb s H Q)
    (hc : ∀ (G Z H : Hp) (ks : List T) (vs : List V) (r : Rho) (s : L2.St) (Q : VK) (Q3 : T → Rho → Prop), S3 X.K G Z H ks vs r s → tc r Q3 →
    (∀ Z' H' x v r', Gr G Z Z' → S3 X.K G Z' H' ks vs r' s → Pv X.K Z' r' s x v → Q3 x r' → Q v H') → tec s H Q) :
    ∀ (G Z H : Hp) (ks : List T) (vs : List V) (r : Rho) (s : L2.St) (Q : VK) (Q3 : T → Rho → Prop), S3 X.K G Z H ks vs r s → xChain p q ta tb tc r Q3 →
    (∀ Z' H' x v r', Gr G Z Z' → S3 X.K G Z' H' ks vs r' s → Pv X.K Z' r' s x v → Q3 x r' → Q v H') → tChain (rI0 fun i j => .bl (p i j)) (rI0 fun i j => .bl (q i j)) tea teb tec s H Q :=
  fun G Z H ks vs r s Q Q3 st ht k => ha G Z H ks vs r s _ _ st ht fun Z1 H1 x v r1 g1 st1 p1 q1 => hb G Z1 H1 ks vs r1 s _ _ st1 q1 fun Z2 H2 y u r2 g2 st2 p2 q2 => by
    obtain ⟨i, rfl, q4⟩ := asI_of q2
    obtain ⟨j, rfl, q5⟩ := asI_of q4
    refine ⟨i, j, p1.int, p2.int, p i j, rfl, ?_⟩
    cases e : p i j with
    | true =>
      refine hc G Z2 H2 ks vs r2 s _ _ st2 (q5.1 e) fun Z3 H3 z w r3 g3 st3 p3 q3 => ?_
      obtain ⟨l, rfl, q6⟩ := asI_of q3
      exact ⟨j, l, p2.int, p3.int, k Z3 H3 (.d (.bool (q j l))) _ r3 ((g1.trans g2).trans g3) st3 (Dq.bl _) q6⟩
    | false =>
      exact k Z2 H2 (.d (.bool false)) _ r2 (g1.trans g2) st2 (Dq.bl _) (q5.2 e)
theorem r3_chain {op op' : CmpOp} {p q : Int → Int → Bool} (ho : OpR X (compareOp op) (rI0 fun i j => .bl (p i j))) (ho' : OpR X (compareOp op') (rI0 fun i j => .bl (q i j))) (ha : R3 X a ta) (hb : R3 X b tb) (hc : R3 X c tc)
    (hm : lastMarks [op, op'] [b, c] = false := by with_unfolding_all rfl) : R3 X (.Compare a [op, op'] [b, c] pos) (xChain p q ta tb tc) := by
  obtain ⟨tea, ea, sa⟩ := ha.ex
  obtain ⟨teb, eb, sb⟩ := hb.ex
  obtain ⟨tec, ec, sc⟩ := hc.ex
  exact ⟨_, pe_chain ho ho' ea eb ec hm, chain_run sa sb sc⟩
theorem t3_chain {op op' : CmpOp} {p q : Int → Int → Bool} (ho : OpR X (compareOp op) (rI0 fun i j => .bl (p i j))) (ho' : OpR X (compareOp op') (rI0 fun i j => .bl (q i j))) (ha : R3 X a ta) (hb : R3 X b tb) (hc : R3 X c tc)
    (hm : lastMarks [op, op'] [b, c] = false := by with_unfolding_all rfl) : T3 X (.Compare a [op, op'] [b, c] pos) (xTest (xChain p q ta tb tc)) := by
  obtain ⟨tea, ea, sa⟩ := ha.ex
  obtain ⟨teb, eb, sb⟩ := hb.ex
  obtain ⟨tec, ec, sc⟩ := hc.ex
  refine ⟨_, pt_chain ho ho' ea eb ec hm, fun G Z H ks vs r s Q Q3 st ht k => chain_run sa sb sc G Z H ks vs r s _ _ st ht fun Z' H' x v r' g st' pv q => ?_⟩
  obtain ⟨b, rfl, q⟩ := asB_of q
  exact ⟨b, pv.bool, k Z' H' b r' g st' q⟩
end
end L3
namespace L3
open PySem PySem.Spec PyProof.Rows L2

/-! ### places -/
def getI {α : Type} (l : List α) (i : Int) : Option α := if 0 ≤ i then l[i.toNat]? else if -(l.length : Int) ≤ i then l[(i + l.length).toNat]? else none
theorem atI_eq {α : Type} (l : List α) (i : Int) : atI l i = getI l i := by
  unfold atI ixN getI
  by_cases h0 : 0 ≤ i
  · rw [if_pos h0, if_pos h0]
    by_cases h1 : i < (l.length : Int)
    · rw [if_pos h1]; rfl
    · rw [if_neg h1, List.getElem?_eq_none (by omega)]; rfl
  · rw [if_neg h0, if_neg h0]
    by_cases h1 : -(l.length : Int) ≤ i
    · rw [if_pos h1, if_pos h1]; rfl
    · rw [if_neg h1, if_neg h1]; rfl
theorem getI_nat {α : Type} (l : List α) (j : Nat) : getI l (j : Int) = l[j]? := by
  unfold getI
  rw [if_pos (by omega)]
  rfl
theorem getI_map {α β : Type} (f : α → β) (l : List α) (i : Int) : getI (l.map f) i = (getI l i).map f := by
  unfold getI
  rw [List.length_map]
  split
  · rw [List.getElem?_map]
  · split
    · rw [List.getElem?_map]
    · rfl
theorem getI_set {α : Type} (l : List α) (i : Int) : ∀ x, getI l i = some x → ∃ j, ixN l.length i = some j ∧ l[j]? = some x := by
  intro x h
  have h' : atI l i = some x := by rw [atI_eq]; exact h
  unfold atI at h'
  cases e : ixN l.length i with
  | none => rw [e] at h'; cases h'
  | some j => rw [e] at h'; exact ⟨j, rfl, h'⟩
section
variable {K : PySem.W.Frag} {Z H : Hp}
theorem rts_len : ∀ {l : List T} {vs : List V}, RTs K Z H l vs → l.length = vs.length
  | _, _, .nil => rfl
  | _, _, .cons _ q => by simp [rts_len q]
theorem rts_get : ∀ {l : List T} {vs : List V} {i : Nat} {t : T}, RTs K Z H l vs → l[i]? = some t → ∃ v, vs[i]? = some v ∧ RT K Z H t v
  | _, _, i, _, .nil, h => by simp at h
  | _, _, 0, t, .cons q _, h => by
    simp at h; subst h; exact ⟨_, rfl, q⟩
  | _, _, i + 1, t, .cons _ q, h => by
    obtain ⟨v, e, r⟩ := rts_get (i := i) (t := t) q (by simpa using h)
    exact ⟨v, by simpa using e, r⟩
theorem rts_at {l : List T} {vs : List V} {i : Int} {t : T} (q : RTs K Z H l vs) (h : getI l i = some t) : ∃ v, atI vs i = some v ∧ RT K Z H t v := by
  obtain ⟨j, e, g⟩ := getI_set l i t h
  obtain ⟨v, e2, r⟩ := rts_get q g
  refine ⟨v, ?_, r⟩
  unfold atI
  rw [← rts_len q, e]
  exact e2
theorem dpa_len : ∀ {l : List PyData} {vs : List V}, DqAll K Z vs l → l.length = vs.length
  | _, _, .nil => rfl
  | _, _, .cons _ q => by simp [dpa_len q]
theorem dpa_get : ∀ {l : List PyData} {vs : List V} {i : Nat} {t : PyData}, DqAll K Z vs l → l[i]? = some t → ∃ v, vs[i]? = some v ∧ Dq K Z v t
  | _, _, i, _, .nil, h => by simp at h
  | _, _, 0, t, .cons q _, h => by
    simp at h; subst h; exact ⟨_, rfl, q⟩
  | _, _, i + 1, t, .cons _ q, h => by
    obtain ⟨v, e, r⟩ := dpa_get (i := i) (t := t) q (by simpa using h)
    exact ⟨v, by simpa using e, r⟩
theorem dpa_at {l : List PyData} {vs : List V} {i : Int} {t : PyData} (q : DqAll K Z vs l) (h : getI l i = some t) : ∃ v, atI vs i = some v ∧ Dq K Z v t := by
  obtain ⟨j, e, g⟩ := getI_set l i t h
  obtain ⟨v, e2, r⟩ := dpa_get q g
  refine ⟨v, ?_, r⟩
  unfold atI
  rw [← dpa_len q, e]
  exact e2
theorem dpa_drop : ∀ {l : List PyData} {vs : List V} (n : Nat), DqAll K Z vs l → DqAll K Z (vs.drop n) (l.drop n)
  | _, _, 0, q => q
  | _, _, n + 1, .nil => .nil
  | _, _, n + 1, .cons _ q => dpa_drop n q
theorem dpa_take : ∀ {l : List PyData} {vs : List V} (n : Nat), DqAll K Z vs l → DqAll K Z (vs.take n) (l.take n)
  | _, _, 0, q => .nil
  | _, _, n + 1, .nil => .nil
  | _, _, n + 1, .cons h q => .cons h (dpa_take n q)
theorem dpa_app : ∀ {l m : List PyData} {vs ws : List V}, DqAll K Z vs l → DqAll K Z ws m → DqAll K Z (vs ++ ws) (l ++ m)
  | _, _, _, _, .nil, q => q
  | _, _, _, _, .cons h k, q => .cons h (dpa_app k q)
theorem dpa_rep : ∀ {l : List PyData} {vs : List V} (n : Nat), DqAll K Z vs l → DqAll K Z (List.replicate n vs).flatten (List.replicate n l).flatten
  | _, _, 0, q => .nil
  | _, _, n + 1, q => by rw [List.replicate_succ, List.flatten_cons, List.replicate_succ, List.flatten_cons]; exact dpa_app q (dpa_rep n q)
theorem dqa_ints : ∀ (ns : List Int), DqAll K Z (ns.map V.int) (ns.map PyData.int)
  | [] => .nil
  | n :: ns => .cons (.int n) (dqa_ints ns)
theorem rts_app : ∀ {l m : List T} {vs ws : List V}, RTs K Z H l vs → RTs K Z H m ws → RTs K Z H (l ++ m) (vs ++ ws)
  | _, _, _, _, .nil, q => q
  | _, _, _, _, .cons h k, q => .cons h (rts_app k q)
end
/-- all items data -/
def alld : List T → Bool
  | [] => true
  | .d _ :: l => alld l
  | _ :: _ => false
theorem alld_eq : ∀ {l : List T}, alld l = true → l = (fzs l).map T.d
  | [], _ => rfl
  | .d x :: l, h => by simp only [fzs, fz, List.map_cons, ← alld_eq (l := l) h]
  | .v _ :: _, h => by simp [alld] at h
  | .sc _ _ :: _, h => by simp [alld] at h
  | .own _ _ :: _, h => by simp [alld] at h
  | .tp _ :: _, h => by simp [alld] at h
theorem fzs_d : ∀ (l : List PyData), fzs (l.map T.d) = l
  | [] => rfl
  | x :: l => by simp only [List.map_cons, fzs, fz, fzs_d l]
theorem alld_d : ∀ (l : List PyData), alld (l.map T.d) = true
  | [] => rfl
  | x :: l => by simp only [List.map_cons, alld, alld_d l]
theorem fzs_map {α : Type} (f : α → PyData) (l : List α) : fzs (l.map fun x => T.d (f x)) = l.map f := by
  have := fzs_d (l.map f)
  rw [List.map_map] at this
  exact this
theorem alld_map {α : Type} (f : α → PyData) (l : List α) : alld (l.map fun x => T.d (f x)) = true := by
  have := alld_d (l.map f)
  rw [List.map_map] at this
  exact this
theorem fzs_append : ∀ (l m : List T), fzs (l ++ m) = fzs l ++ fzs m
  | [], _ => rfl
  | t :: l, m => by simp only [List.cons_append, fzs, fzs_append l m]
theorem alld_append : ∀ (l m : List T), alld (l ++ m) = (alld l && alld m)
  | [], _ => by simp [alld]
  | .d x :: l, m => by simp only [List.cons_append, alld, alld_append l m]
  | .v _ :: _, _ => by simp [alld]
  | .sc _ _ :: _, _ => by simp [alld]
  | .own _ _ :: _, _ => by simp [alld]
  | .tp _ :: _, _ => by simp [alld]
theorem nvs_d : ∀ (l : List PyData), nvs (l.map T.d) = true
  | [] => rfl
  | x :: l => by simp only [List.map_cons, nvs, nv, nvs_d l, Bool.and_self]
theorem nvs_map {α : Type} (f : α → PyData) (l : List α) : nvs (l.map fun x => T.d (f x)) = true := by
  have := nvs_d (l.map f)
  rw [List.map_map] at this
  exact this
theorem nvs_alld {l : List T} (h : alld l = true) : nvs l = true := by
  rw [alld_eq h]; exact nvs_d _
theorem cts_d (a : Addr) : ∀ (l : List PyData), cts a (l.map T.d) = 0
  | [] => rfl
  | x :: l => by simp only [List.map_cons, cts, ct, cts_d a l]
theorem rts_of_dpa {K : PySem.W.Frag} {Z H : Hp} : ∀ {l : List PyData} {vs : List V}, DqAll K Z vs l → RTs K Z H (l.map T.d) vs
  | _, _, .nil => .nil
  | _, _, .cons h q => .cons (.d h) (rts_of_dpa q)
theorem dpa_of_rts {K : PySem.W.Frag} {Z H : Hp} : ∀ {l : List PyData} {vs : List V}, RTs K Z H (l.map T.d) vs → DqAll K Z vs l
  | [], _, .nil => .nil
  | _ :: _, _, .cons h q => by
    cases h with
    | d h => exact .cons h (dpa_of_rts q)

section
variable {X : Cx} {e a b c : Expr} {t ta tb tc : TE3} {pos : Pos}

/-! ### a[i] -/
def cItem (t : T) (r : Rho) (Q : T → Rho → Prop) : Prop := match t with | .d z => Q (.d z) r | .own b m => Q (.own b m) r | _ => False
def cIx : C2 := fun r1 x y r Q => asI y fun i => match x with
  | .d (.list l) => ∃ z, getI l i = some z ∧ Q (.d z) r
  | .d (.tuple l) => ∃ z, getI l i = some z ∧ Q (.d z) r
  | .d (.str z) => z.length ≤ sizeLine ∧ ∃ c, getI z.cps.toList i = some c ∧ Q (.d (.str ⟨#[c]⟩)) r
  | .sc _ ns => ∃ z, getI ns i = some z ∧ Q (.d (.int z)) r
  | .own _ l => r = r1 ∧ ∃ t, getI l i = some t ∧ cItem t r Q
  | .tp l => r = r1 ∧ ∃ t, getI l i = some t ∧ cItem t r Q
  | _ => False
theorem con_ix : Con2 X (rIx X.K) cIx := fun G Z H ks vs r1 r s x y tx ty Q Q3 st px py hc0 k => by
  obtain ⟨i, rfl, hc⟩ := asI_of hc0
  clear hc0
  cases py.int
  have seqD : ∀ {l : List PyData} {z : PyData} {xs : List V}, DqAll X.K Z xs l → getI l i = some z → Q3 (.d z) r → ∃ v, atI xs i = some v ∧ Q v H := fun {l z xs} hd hg q => by
    obtain ⟨v, e, dz⟩ := dpa_at hd hg
    exact ⟨v, e, k Z H (.d z) v r (Gr.refl _ _) st dz q⟩
  cases tx with
  | v x => exact hc.elim
  | sc a ns =>
    obtain ⟨rfl, hs⟩ := px.scr a ns rfl
    obtain ⟨z, hg, hc⟩ := hc
    exact .inl ⟨_, _, i, .int z, rfl, rfl, st.zh.L hs, by rw [atI_eq, getI_map, hg]; rfl, k Z H (.d (.int z)) _ r (Gr.refl _ _) st (Dq.int _) hc⟩
  | d d =>
    have dx := px.dat d rfl
    cases dx with
    | lst hs ha =>
      obtain ⟨z, hg, hc⟩ := hc
      obtain ⟨v, e, q⟩ := seqD ha hg hc
      exact .inl ⟨_, _, i, v, rfl, rfl, SqL.of (st.zh _ _ hs), e, q⟩
    | tup hs ha =>
      obtain ⟨z, hg, hc⟩ := hc
      obtain ⟨v, e, q⟩ := seqD ha hg hc
      exact .inr (.inl ⟨_, _, i, v, rfl, rfl, SqT.of (st.zh _ _ hs), e, q⟩)
    | str z =>
      obtain ⟨hz, c, hg, hc⟩ := hc
      exact .inr (.inr ⟨z, i, c, rfl, rfl, hz, by rw [atI_eq]; exact hg, k Z H (.d (.str ⟨#[c]⟩)) _ r (Gr.refl _ _) st (Dq.str _) hc⟩)
    | exc _ _ => exact hc.elim
    | non => exact hc.elim
    | bl _ => exact hc.elim
    | int _ => exact hc.elim
  | own a0 l =>
    obtain ⟨e1, t, hg, hc⟩ := hc
    have pp := px.same e1
    have rt := pp.now st
    cases rt with
    | own h1 h2 =>
      obtain ⟨v, e, rz⟩ := rts_at h2 hg
      unfold cItem at hc
      split at hc
      · rename_i z
        cases rz with
        | d dz => exact .inl ⟨_, _, i, v, rfl, rfl, SqL.of h1, e, k Z H (.d z) v r (Gr.refl _ _) st dz hc⟩
      · rename_i b m
        cases rz with
        | own g1 g2 =>
          refine .inl ⟨_, _, i, _, rfl, rfl, SqL.of h1, e, k Z H (.own b m) _ r (Gr.refl _ _) st ?_ hc⟩
          intro G2 Z2 H2 ks2 vs2 sub st2
          have rt2 := pp G2 Z2 H2 ks2 vs2 sub st2
          cases rt2 with
          | own k1 k2 =>
            obtain ⟨v2, _, rz2⟩ := rts_at k2 hg
            cases rz2 with
            | own m1 m2 => exact .own m1 m2
      · exact hc.elim
  | tp l =>
    obtain ⟨e1, t, hg, hc⟩ := hc
    have pp := px.same e1
    have rt := pp.now st
    cases rt with
    | tp h1 h2 =>
      obtain ⟨v, e, rz⟩ := rts_at h2 hg
      unfold cItem at hc
      split at hc
      · rename_i z
        cases rz with
        | d dz => exact .inr (.inl ⟨_, _, i, v, rfl, rfl, SqT.of (st.zh _ _ h1), e, k Z H (.d z) v r (Gr.refl _ _) st dz hc⟩)
      · rename_i b m
        cases rz with
        | own g1 g2 =>
          refine .inr (.inl ⟨_, _, i, _, rfl, rfl, SqT.of (st.zh _ _ h1), e, k Z H (.own b m) _ r (Gr.refl _ _) st ?_ hc⟩)
          intro G2 Z2 H2 ks2 vs2 sub st2
          have rt2 := pp G2 Z2 H2 ks2 vs2 sub st2
          cases rt2 with
          | tp k1 k2 =>
            obtain ⟨v2, _, rz2⟩ := rts_at k2 hg
            cases rz2 with
            | own m1 m2 => exact .own m1 m2
      · exact hc.elim
theorem r3_ix (ha : R3 X a ta) (hb : R3 X b tb) (hs : PlainIx b := by intro _ _; rfl) : R3 X (.Subscript a b pos) (x2 cIx ta tb) := by
  obtain ⟨tea, ea, sa⟩ := ha.ex
  obtain ⟨teb, eb, sb⟩ := hb.ex
  exact ⟨_, pe_ix ix_seq ea eb hs, two_run con_ix sa sb⟩

/-! ### a[lo:hi] -/
def cutL {α : Type} (xs : List α) (lo hi : Option Int) : List α := (xs.drop (HT.sIx xs.length 0 lo)).take (HT.sIx xs.length xs.length hi - HT.sIx xs.length 0 lo)
theorem cutL_map {α β : Type} (f : α → β) (xs : List α) (lo hi : Option Int) : cutL (xs.map f) lo hi = (cutL xs lo hi).map f := by
  unfold cutL
  rw [List.length_map, List.map_take, List.map_drop]
abbrev TO3 := Rho → (Option Int → Rho → Prop) → Prop
structure PO3 (X : Cx) (e : Option Expr) (t : TO3) : Prop where
  ex : ∃ te : TO, PO X e te ∧ ∀ (G Z H : Hp) (ks : List T) (vs : List V) (r : Rho) (s : L2.St) (Q : Option Int → Hp → Prop) (Q3 : Option Int → Rho → Prop), S3 X.K G Z H ks vs r s → t r Q3 →
    (∀ Z' H' x r', Gr G Z Z' → S3 X.K G Z' H' ks vs r' s → Q3 x r' → Q x H') → te s H Q
def xNo : TO3 := fun r Q => Q none r
def xSome (t : TE3) : TO3 := fun r Q => t r fun x r' => asI x fun i => Q (some i) r'
theorem po3_none : PO3 X none xNo := ⟨_, po_none, fun G Z H ks vs r s Q Q3 st ht k => k Z H none r (Gr.refl _ _) st ht⟩
theorem po3_some (h : R3 X e t) : PO3 X (some e) (xSome t) := by
  obtain ⟨te, ea, sa⟩ := h.ex
  refine ⟨_, po_some ea, fun G Z H ks vs r s Q Q3 st ht k => sa G Z H ks vs r s _ _ st ht fun Z' H' x v r' g st' pv q => ?_⟩
  obtain ⟨i, rfl, q⟩ := asI_of q
  exact ⟨i, pv.int, k Z' H' (some i) r' g st' q⟩
def xSl (te : TE3) (tl th : TO3) : TE3 := fun r Q => te r fun x r1 => tl r1 fun lo r2 => th r2 fun hi r3 => match x with
  | .d (.list l) => ∀ p, Q (.own p ((cutL l lo hi).map T.d)) r3
  | .sc _ ns => ∀ p, Q (.own p ((cutL ns lo hi).map fun n => T.d (.int n))) r3
  | .own _ l => r3 = r1 ∧ alld l = true ∧ ∀ p, Q (.own p ((cutL (fzs l) lo hi).map T.d)) r3
  | .d (.tuple l) => Q (.d (.tuple (cutL l lo hi))) r3
  | .d (.str z) => z.length ≤ sizeLine ∧ Q (.d (.str (cutS z lo hi))) r3
  | _ => False
theorem p3_sl {lo hi : Option Expr} {tl th : TO3} {p2 : Pos} (ha : R3 X a ta) (hl : PO3 X lo tl) (hh : PO3 X hi th) : P3 X (.Subscript a (.Slice lo hi none p2) pos) (xSl ta tl th) := by
  obtain ⟨tea, ea, sa⟩ := ha.ex
  obtain ⟨tel, el, sl⟩ := hl.ex
  obtain ⟨teh, eh, sh⟩ := hh.ex
  refine ⟨_, pe_slice (sl_list.or (sl_tupA.or sl_str)) ea el eh, fun G Z H ks vs r s Q Q3 st ht k => sa G Z H ks vs r s _ _ st ht fun Z1 H1 x v r1 g1 st1 pv q => sl G Z1 H1 ks vs r1 s _ _ st1 q fun Z2 H2 lo r2 g2 st2 q => sh G Z2 H2 ks vs r2 s _ _ st2 q fun Z3 H3 hi r3 g3 st3 q => ?_⟩
  have pp : Pv2 X.K Z3 r1 r3 s x v := pv.two (g2.trans g3).sub
  have gg := (g1.trans g2).trans g3
  have newL : ∀ {xs : List V} {l : List PyData}, DqAll X.K Z3 xs l → (∀ p, Q3 (.own p ((cutL l lo hi).map T.d)) r3) → ∀ p, H3 p = none → Q (.ref p) (upd H3 p (.lst (cutV xs lo hi))) := fun {xs l} hd hq p hp => by
    have hd2 : DqAll X.K Z3 (cutV xs lo hi) (cutL l lo hi) := by
      unfold cutV cutL
      rw [dpa_len hd]
      exact dpa_take _ (dpa_drop _ hd)
    have st4 : S3 X.K G Z3 H3 ((cutL l lo hi).map T.d ++ ks) (cutV xs lo hi ++ vs) r3 s := ⟨st3.zh, st3.gh, fun a => by rw [cts_append, cts_d]; have := st3.one a; omega, fun a c => st3.ow a (by rw [cts_append, cts_d] at c; omega), rts_app (rts_of_dpa hd2) st3.stk, st3.slot, st3.len⟩
    exact k _ _ _ _ r3 gg (st4.mkOwn (by rw [List.length_map]; exact dpa_len hd2) hp) (hq p)
  cases x with
  | v x => exact q.elim
  | tp l => exact q.elim
  | sc a ns =>
    obtain ⟨rfl, hs⟩ := pp.scr a ns rfl
    have q' : ∀ p, Q3 (.own p ((cutL (ns.map PyData.int) lo hi).map T.d)) r3 := fun p => by
      rw [cutL_map, List.map_map]
      exact q p
    exact .inl ⟨_, _, rfl, st3.zh.L hs, newL (dqa_ints ns) q'⟩
  | own a0 l =>
    obtain ⟨e1, al, q⟩ := q
    have rt := (pp.same e1).now st3
    cases rt with
    | own h1 h2 =>
      rw [alld_eq al] at h2
      exact .inl ⟨_, _, rfl, SqL.of h1, newL (dpa_of_rts h2) q⟩
  | d d =>
    have dx := pp.dat d rfl
    cases dx with
    | lst hs ha => exact .inl ⟨_, _, rfl, SqL.of (st3.zh _ _ hs), newL ha q⟩
    | @tup a0 xs l hs ha =>
      have hd2 : DqAll X.K Z3 (cutV xs lo hi) (cutL l lo hi) := by
        unfold cutV cutL
        rw [dpa_len ha]
        exact dpa_take _ (dpa_drop _ ha)
      refine .inr (.inl ⟨a0, xs, rfl, SqT.of (st3.zh _ _ hs), fun w => ?_, fun w p hp => ?_⟩)
      · have e2 : cutL l lo hi = l := by
          unfold cutL
          rw [dpa_len ha, w.1, w.2, List.drop_zero, Nat.sub_zero, ← dpa_len ha, List.take_length]
        simp only [e2] at q
        exact k Z3 H3 _ _ r3 gg (st3.pushD (.tup hs ha)) q
      · obtain ⟨g4, st4⟩ := st3.laidG (o := .tup (cutV xs lo hi)) hp
        exact k _ _ _ _ r3 (gg.trans g4) (st4.pushD (.tup upd_same (dpa_mono g4.sub _ _ hd2))) q
    | str z => exact .inr (.inr ⟨z, rfl, q.1, k Z3 H3 (.d (.str _)) _ r3 gg (st3.pushD (.str _)) q.2⟩)
    | exc _ _ => exact q.elim
    | non => exact q.elim
    | bl _ => exact q.elim
    | int _ => exact q.elim

/-! ### displays -/
abbrev TA3 := Rho → (List T → Rho → Prop) → Prop
structure PA3 (X : Cx) (es : List Expr) (t : TA3) : Prop where
  ex : ∃ te : TA, PA X es te ∧ ∀ (G Z H : Hp) (ks : List T) (vs : List V) (r : Rho) (s : L2.St) (Q : List V → Hp → Prop) (Q3 : List T → Rho → Prop), S3 X.K G Z H ks vs r s → t r Q3 →
    (∀ Z' H' xs us r', Gr G Z Z' → xs.length = us.length → S3 X.K G Z' H' (xs ++ ks) (us ++ vs) r' s → Q3 xs r' → Q us H') → te s H Q
theorem S3.mid {K : PySem.W.Frag} {G Z H : Hp} {r : Rho} {s : L2.St} {t : T} {v : V} {ks : List T} {vs : List V} : ∀ {l : List T} {xs : List V}, l.length = xs.length → S3 K G Z H (l ++ t :: ks) (xs ++ v :: vs) r s → S3 K G Z H (t :: (l ++ ks)) (v :: (xs ++ vs)) r s := by
  intro l xs hl h
  have hm : ∀ (l : List T) (xs : List V), l.length = xs.length → RTs K Z H (l ++ t :: ks) (xs ++ v :: vs) → RTs K Z H (t :: (l ++ ks)) (v :: (xs ++ vs)) := by
    intro l
    induction l with
    | nil => intro xs hl q; cases xs with | nil => exact q | cons _ _ => simp at hl
    | cons y l ih =>
      intro xs hl q
      cases xs with
      | nil => simp at hl
      | cons x xs =>
        cases q with
        | cons q1 q2 =>
          have := ih xs (by simpa using hl) q2
          cases this with
          | cons z1 z2 => exact .cons z1 (.cons q1 z2)
  have hc : ∀ a, cts a (l ++ t :: ks) = cts a (t :: (l ++ ks)) := fun a => by
    rw [cts_append]
    simp only [cts]
    rw [cts_append]
    omega
  exact ⟨h.zh, h.gh, fun a => by rw [← hc a]; exact h.one a, fun a c => h.ow a (by rw [hc a]; exact c), hm l xs hl h.stk, h.slot, h.len⟩
theorem S3.mid' {K : PySem.W.Frag} {G Z H : Hp} {r : Rho} {s : L2.St} {t : T} {v : V} {ks : List T} {vs : List V} : ∀ {l : List T} {xs : List V}, l.length = xs.length → S3 K G Z H (t :: (l ++ ks)) (v :: (xs ++ vs)) r s → S3 K G Z H (l ++ t :: ks) (xs ++ v :: vs) r s := by
  intro l xs hl h
  have hm : ∀ (l : List T) (xs : List V), l.length = xs.length → RTs K Z H (t :: (l ++ ks)) (v :: (xs ++ vs)) → RTs K Z H (l ++ t :: ks) (xs ++ v :: vs) := by
    intro l
    induction l with
    | nil => intro xs hl q; cases xs with | nil => exact q | cons _ _ => simp at hl
    | cons y l ih =>
      intro xs hl q
      cases xs with
      | nil => simp at hl
      | cons x xs =>
        cases q with
        | cons q1 q2 =>
          cases q2 with
          | cons q3 q4 => exact .cons q3 (ih xs (by simpa using hl) (.cons q1 q4))
  have hc : ∀ a, cts a (l ++ t :: ks) = cts a (t :: (l ++ ks)) := fun a => by
    rw [cts_append]
    simp only [cts]
    rw [cts_append]
    omega
  exact ⟨h.zh, h.gh, fun a => by rw [hc a]; exact h.one a, fun a c => h.ow a (by rw [← hc a]; exact c), hm l xs hl h.stk, h.slot, h.len⟩
def xNil : TA3 := fun r Q => Q [] r
def xCons (t : TE3) (u : TA3) : TA3 := fun r Q => t r fun x r1 => u r1 fun xs r2 => Q (x :: xs) r2
theorem pa3_nil : PA3 X [] xNil := ⟨_, pa_nil, fun G Z H ks vs r s Q Q3 st ht k => k Z H [] [] r (Gr.refl _ _) rfl st ht⟩
theorem pa3_cons {es : List Expr} {u : TA3} (ha : P3 X e t) (hr : PA3 X es u) (hs : starEach (e :: es) X.env = (false, eval e X.env) :: starEach es X.env := by rfl) : PA3 X (e :: es) (xCons t u) := by
  obtain ⟨tea, ea, sa⟩ := ha.ex
  obtain ⟨ter, er, sr⟩ := hr.ex
  refine ⟨_, pa_cons ea er hs, fun G Z H ks vs r s Q Q3 st ht k => sa G Z H ks vs r s _ _ st ht fun Z1 H1 x v r1 g1 st1 q1 => sr G Z1 H1 (x :: ks) (v :: vs) r1 s _ _ st1 q1 fun Z2 H2 xs us r2 g2 hl st2 q2 => ?_⟩
  exact k Z2 H2 (x :: xs) (v :: us) r2 (g1.trans g2) (by simp [hl]) (st2.mid hl) q2
def xLst (t : TA3) : TE3 := fun r Q => t r fun xs r' => xs.length ≤ sizeLine ∧ ∀ p, Q (.own p xs) r'
theorem p3_lst {es : List Expr} {u : TA3} (h : PA3 X es u) : P3 X (.List es pos) (xLst u) := by
  obtain ⟨te, ea, sa⟩ := h.ex
  refine ⟨_, pe_lst ea, fun G Z H ks vs r s Q Q3 st ht k => sa G Z H ks vs r s _ _ st ht fun Z1 H1 xs us r1 g1 hl st1 q => ⟨by rw [← hl]; exact q.1, fun p hp => ?_⟩⟩
  exact k _ _ _ _ r1 g1 (st1.mkOwn hl hp) (q.2 p)
/-- a tuple of what was told: data, where all of it is -/
def mkTup (l : List T) : T := if alld l = true then .d (.tuple (fzs l)) else .tp l
theorem S3.mkTup {K : PySem.W.Frag} {G Z H : Hp} {ks : List T} {vs : List V} {r : Rho} {s : L2.St} {l : List T} {xs : List V} {p : Addr} (h : S3 K G Z H (l ++ ks) (xs ++ vs) r s) (hl : l.length = xs.length) (hp : H p = none) :
    Gr G Z (upd Z p (.tup xs)) ∧ S3 K G (upd Z p (.tup xs)) (upd H p (.tup xs)) (mkTup l :: ks) (.ref p :: vs) r s := by
  obtain ⟨g, h1⟩ := h.laidG (o := .tup xs) hp
  refine ⟨g, ?_⟩
  have splt : ∀ (l : List T) (xs : List V), l.length = xs.length → ∀ (Z H : Hp), RTs K Z H (l ++ ks) (xs ++ vs) → RTs K Z H l xs ∧ RTs K Z H ks vs := by
    intro l
    induction l with
    | nil => intro xs hl Z H q; cases xs with | nil => exact ⟨.nil, q⟩ | cons _ _ => simp at hl
    | cons t l ih =>
      intro xs hl Z H q
      cases xs with
      | nil => simp at hl
      | cons x xs =>
        cases q with
        | cons q1 q2 =>
          obtain ⟨z1, z2⟩ := ih xs (by simpa using hl) Z H q2
          exact ⟨.cons q1 z1, z2⟩
  obtain ⟨q1, q2⟩ := splt l xs hl _ _ h1.stk
  have tsq : (upd Z p (.tup xs)) p = some (.tup xs) := upd_same
  unfold L3.mkTup
  split
  · rename_i al
    rw [alld_eq al] at q1
    refine ⟨h1.zh, h1.gh, fun a => ?_, fun a c => h1.ow a ?_, .cons (.d (.tup tsq (dpa_of_rts q1))) q2, h1.slot, h1.len⟩
    · have := h1.one a
      rw [cts_append] at this
      simp only [cts, ct]
      omega
    · rw [cts_append]
      simp only [cts, ct] at c
      omega
  · refine ⟨h1.zh, h1.gh, fun a => ?_, fun a c => h1.ow a ?_, .cons (.tp tsq q1) q2, h1.slot, h1.len⟩
    · have := h1.one a
      rw [cts_append] at this
      simp only [cts, ct]
      omega
    · rw [cts_append]
      simp only [cts, ct] at c
      omega
def xTup (t : TA3) : TE3 := fun r Q => t r fun xs r' => xs.length ≤ sizeLine ∧ Q (mkTup xs) r'
theorem p3_tup {es : List Expr} {u : TA3} {x1} (h : PA3 X es u) : P3 X (.Tuple es x1 pos) (xTup u) := by
  obtain ⟨te, ea, sa⟩ := h.ex
  refine ⟨_, pe_tup ea, fun G Z H ks vs r s Q Q3 st ht k => sa G Z H ks vs r s _ _ st ht fun Z1 H1 xs us r1 g1 hl st1 q => ⟨by rw [← hl]; exact q.1, fun p hp => ?_⟩⟩
  obtain ⟨g2, st2⟩ := st1.mkTup hl hp
  exact k _ _ _ _ r1 (g1.trans g2) st2 q.2

end
end L3
namespace L3
open PySem PySem.Spec PyProof.Rows L2

section
variable {K : PySem.W.Frag} {G Z H : Hp} {ks : List T} {vs : List V} {r : Rho} {s : L2.St}
/-- a new list of data -/
theorem S3.newD {l : List PyData} {xs : List V} {p : Addr} (h : S3 K G Z H ks vs r s) (hd : DqAll K Z xs l) (hp : H p = none) : S3 K G Z (upd H p (.lst xs)) (.own p (l.map T.d) :: ks) (.ref p :: vs) r s := by
  have st4 : S3 K G Z H (l.map T.d ++ ks) (xs ++ vs) r s := ⟨h.zh, h.gh, fun a => by rw [cts_append, cts_d]; have := h.one a; omega, fun a c => h.ow a (by rw [cts_append, cts_d] at c; omega), rts_app (rts_of_dpa hd) h.stk, h.slot, h.len⟩
  exact st4.mkOwn (by rw [List.length_map]; exact dpa_len hd) hp
theorem dqa_inv : ∀ {ns : List Int} {xs : List V}, DqAll K Z xs (ns.map PyData.int) → xs = ns.map V.int
  | [], _, .nil => rfl
  | n :: ns, _, .cons h q => by
    cases h
    rw [dqa_inv q]
    rfl
end
def allI : List PyData → Bool
  | [] => true
  | .int _ :: l => allI l
  | _ :: _ => false
def intL : List PyData → List Int
  | [] => []
  | .int i :: l => i :: intL l
  | _ :: l => intL l
theorem allI_eq : ∀ {l : List PyData}, allI l = true → l = (intL l).map PyData.int
  | [], _ => rfl
  | .int i :: l, h => by simp only [intL, List.map_cons, ← allI_eq (l := l) h]
  | .none :: _, h => by simp [allI] at h
  | .bool _ :: _, h => by simp [allI] at h
  | .str _ :: _, h => by simp [allI] at h
  | .list _ :: _, h => by simp [allI] at h
  | .tuple _ :: _, h => by simp [allI] at h
  | .dict _ :: _, h => by simp [allI] at h
theorem allI_map : ∀ (ns : List Int), allI (ns.map PyData.int) = true
  | [] => rfl
  | n :: ns => by simp only [List.map_cons, allI, allI_map ns]
theorem ints_map : ∀ (ns : List Int), intL (ns.map PyData.int) = ns
  | [] => rfl
  | n :: ns => by simp only [List.map_cons, intL, ints_map ns]
theorem allI_fun {α : Type} (f : α → Int) (l : List α) : allI (l.map fun x => PyData.int (f x)) = true := by
  have := allI_map (l.map f); rw [List.map_map] at this; exact this
theorem ints_fun {α : Type} (f : α → Int) (l : List α) : intL (l.map fun x => PyData.int (f x)) = l.map f := by
  have := ints_map (l.map f); rw [List.map_map] at this; exact this
theorem flat1 {α : Type} (n : Nat) (x : α) : (List.replicate n [x]).flatten = List.replicate n x := by
  induction n with
  | zero => rfl
  | succ n ih => rw [List.replicate_succ, List.flatten_cons, ih, List.replicate_succ]; rfl
def maxL : List Int → Int
  | [] => 0
  | x :: l => l.foldl max x
def minL : List Int → Int
  | [] => 0
  | x :: l => l.foldl min x
theorem maxF (l : List Int) : ∀ x : Int, x ≤ l.foldl max x ∧ (∀ y ∈ l, y ≤ l.foldl max x) ∧ (l.foldl max x = x ∨ l.foldl max x ∈ l) := by
  induction l with
  | nil => intro x; exact ⟨Int.le_refl _, by simp, .inl rfl⟩
  | cons z l ih =>
    intro x
    obtain ⟨h1, h2, h3⟩ := ih (max x z)
    refine ⟨Int.le_trans (Int.le_max_left _ _) h1, fun y hy => ?_, ?_⟩
    · rcases List.mem_cons.mp hy with e | hy
      · rw [e]; exact Int.le_trans (Int.le_max_right _ _) h1
      · exact h2 y hy
    · rcases h3 with e | h3
      · have : (z :: l).foldl max x = max x z := e
        rw [this]
        rcases Int.le_total x z with q | q
        · rw [Int.max_eq_right q]; exact .inr (List.mem_cons_self ..)
        · rw [Int.max_eq_left q]; exact .inl rfl
      · exact .inr (List.mem_cons_of_mem _ h3)
theorem minF (l : List Int) : ∀ x : Int, l.foldl min x ≤ x ∧ (∀ y ∈ l, l.foldl min x ≤ y) ∧ (l.foldl min x = x ∨ l.foldl min x ∈ l) := by
  induction l with
  | nil => intro x; exact ⟨Int.le_refl _, by simp, .inl rfl⟩
  | cons z l ih =>
    intro x
    obtain ⟨h1, h2, h3⟩ := ih (min x z)
    refine ⟨Int.le_trans h1 (Int.min_le_left _ _), fun y hy => ?_, ?_⟩
    · rcases List.mem_cons.mp hy with e | hy
      · rw [e]; exact Int.le_trans h1 (Int.min_le_right _ _)
      · exact h2 y hy
    · rcases h3 with e | h3
      · have : (z :: l).foldl min x = min x z := e
        rw [this]
        rcases Int.le_total x z with q | q
        · rw [Int.min_eq_left q]; exact .inl rfl
        · rw [Int.min_eq_right q]; exact .inr (List.mem_cons_self ..)
      · exact .inr (List.mem_cons_of_mem _ h3)
theorem maxL_mem {l : List Int} (h : l ≠ []) : maxL l ∈ l := by
  cases l with
  | nil => exact absurd rfl h
  | cons x l =>
    rcases (maxF l x).2.2 with e | e
    · show l.foldl max x ∈ _
      rw [e]; exact List.mem_cons_self ..
    · exact List.mem_cons_of_mem _ e
theorem maxL_ge {l : List Int} {y : Int} (h : y ∈ l) : y ≤ maxL l := by
  cases l with
  | nil => simp at h
  | cons x l =>
    rcases List.mem_cons.mp h with e | e
    · rw [e]; exact (maxF l x).1
    · exact (maxF l x).2.1 y e
theorem minL_mem {l : List Int} (h : l ≠ []) : minL l ∈ l := by
  cases l with
  | nil => exact absurd rfl h
  | cons x l =>
    rcases (minF l x).2.2 with e | e
    · show l.foldl min x ∈ _
      rw [e]; exact List.mem_cons_self ..
    · exact List.mem_cons_of_mem _ e
theorem minL_le {l : List Int} {y : Int} (h : y ∈ l) : minL l ≤ y := by
  cases l with
  | nil => simp at h
  | cons x l =>
    rcases List.mem_cons.mp h with e | e
    · rw [e]; exact (minF l x).1
    · exact (minF l x).2.1 y e

section
variable {X : Cx} {e a b c : Expr} {t ta tb tc : TE3} {pos : Pos}

/-! ### a + b of any kind -/
def cAdd : C2 := fun r1 x y r Q => match x, y with
  | .d (.int i), .d (.int j) => Q (.d (.int (i + j))) r
  | .d (.str i), .d (.str j) => i.length + j.length ≤ sizeLine ∧ Q (.d (.str (i ++ j))) r
  | .d (.tuple l), .d (.tuple m) => l.length + m.length ≤ sizeLine ∧ Q (.d (.tuple (l ++ m))) r
  | .own _ l, .own _ m => r = r1 ∧ alld l = true ∧ alld m = true ∧ l.length + m.length ≤ sizeLine ∧ ∀ p, Q (.own p (l ++ m)) r
  | .own _ l, .d (.list m) => r = r1 ∧ alld l = true ∧ l.length + m.length ≤ sizeLine ∧ ∀ p, Q (.own p (l ++ m.map T.d)) r
  | .d (.list l), .own _ m => alld m = true ∧ l.length + m.length ≤ sizeLine ∧ ∀ p, Q (.own p (l.map T.d ++ m)) r
  | .d (.list l), .d (.list m) => l.length + m.length ≤ sizeLine ∧ ∀ p, Q (.own p (l.map T.d ++ m.map T.d)) r
  | _, _ => False
/-- a list's items as data -/
theorem own_data {K : PySem.W.Frag} {Z H : Hp} {p : Addr} {l : List T} {v : V} (h : RT K Z H (.own p l) v) (al : alld l = true) : ∃ xs, v = .ref p ∧ H p = some (.lst xs) ∧ DqAll K Z xs (fzs l) ∧ xs.length = l.length := by
  cases h with
  | own h1 h2 =>
    have e := rts_len h2
    rw [alld_eq al] at h2
    exact ⟨_, rfl, h1, dpa_of_rts h2, e.symm⟩
theorem con_add : Con2P X (fun x y H Q => (rI0 fun i j => .int (i + j)) x y H Q ∨ (∃ i j, x = .str i ∧ y = .str j ∧ i.length + j.length ≤ sizeLine ∧ Q (.str (i ++ j)) H) ∨ rCatA X.K x y H Q ∨ rCat x y H Q) cAdd :=
  fun G Z H ks vs r1 r s x y tx ty Q Q3 st px py hc k => by
    have cat : ∀ {a b : Addr} {xs zs : List V} {l m : List PyData}, H a = some (.lst xs) → H b = some (.lst zs) → DqAll X.K Z xs l → DqAll X.K Z zs m → xs.length + zs.length ≤ sizeLine → (∀ p, Q3 (.own p (l.map T.d ++ m.map T.d)) r) → rCat (.ref a) (.ref b) H Q :=
      fun {a b xs zs l m} h1 h2 d1 d2 hz q => ⟨a, b, xs, zs, rfl, rfl, h1, h2, hz, fun p hp => by
        have := st.newD (dpa_app d1 d2) hp
        rw [List.map_append] at this
        exact k Z _ _ _ r (Gr.refl _ _) this (q p)⟩
    unfold cAdd at hc
    split at hc
    · rename_i i j
      cases px.dat _ rfl
      cases py.int
      exact .inl ⟨i, j, rfl, rfl, k Z H (.d (.int (i + j))) _ r (Gr.refl _ _) (st.pushD (.int _)) hc⟩
    · rename_i i j
      cases px.dat _ rfl
      cases py.str
      exact .inr (.inl ⟨i, j, rfl, rfl, hc.1, k Z H (.d (.str _)) _ r (Gr.refl _ _) (st.pushD (.str _)) hc.2⟩)
    · rename_i l m
      have dx := px.dat _ rfl
      have dy : Dq X.K Z y (.tuple m) := py
      cases dx with
      | @tup a1 xs _ hx ax =>
        cases dy with
        | @tup a2 ys _ hy ay =>
          refine .inr (.inr (.inl ⟨a1, a2, xs, ys, rfl, rfl, SqT.of (st.zh _ _ hx), SqT.of (st.zh _ _ hy), by rw [← dpa_len ax, ← dpa_len ay]; exact hc.1, fun e => ?_, fun _ e => ?_, fun _ _ p hp => ?_⟩))
          · subst e
            cases ax
            exact k Z H _ _ r (Gr.refl _ _) (st.pushD (.tup hy ay)) hc.2
          · subst e
            cases ay
            refine k Z H _ _ r (Gr.refl _ _) (st.pushD (.tup hx ax)) ?_
            have h2 := hc.2
            rw [List.append_nil] at h2
            exact h2
          · obtain ⟨g4, st4⟩ := st.laidG (o := .tup (xs ++ ys)) hp
            exact k _ _ _ _ r g4 (st4.pushD (.tup upd_same (dpa_mono g4.sub _ _ (dpa_app ax ay)))) hc.2
    · rename_i a1 l a2 m
      obtain ⟨xs, rfl, h1, d1, e1⟩ := own_data ((px.same hc.1).now st) hc.2.1
      obtain ⟨zs, rfl, h2, d2, e2⟩ := own_data (py.now st) hc.2.2.1
      refine .inr (.inr (.inr (cat h1 h2 d1 d2 (by rw [e1, e2]; exact hc.2.2.2.1) ?_)))
      rw [← alld_eq hc.2.1, ← alld_eq hc.2.2.1]
      exact hc.2.2.2.2
    · rename_i a1 l m
      obtain ⟨xs, rfl, h1, d1, e1⟩ := own_data ((px.same hc.1).now st) hc.2.1
      cases (show Dq X.K Z y (.list m) from py) with
      | lst hs ha =>
        refine .inr (.inr (.inr (cat h1 (st.zh _ _ hs) d1 ha (by rw [e1, ← dpa_len ha]; exact hc.2.2.1) ?_)))
        rw [← alld_eq hc.2.1]
        exact hc.2.2.2
    · rename_i l a2 m
      obtain ⟨zs, rfl, h2, d2, e2⟩ := own_data (py.now st) hc.1
      cases px.dat _ rfl with
      | lst hs ha =>
        refine .inr (.inr (.inr (cat (st.zh _ _ hs) h2 ha d2 (by rw [e2, ← dpa_len ha]; exact hc.2.1) ?_)))
        rw [← alld_eq hc.1]
        exact hc.2.2
    · rename_i l m
      cases px.dat _ rfl with
      | lst hs ha =>
        cases (show Dq X.K Z y (.list m) from py) with
        | lst hs2 ha2 => exact .inr (.inr (.inr (cat (st.zh _ _ hs) (st.zh _ _ hs2) ha ha2 (by rw [← dpa_len ha, ← dpa_len ha2]; exact hc.1) hc.2)))
    · exact hc.elim
theorem p3_add (ha : R3 X a ta) (hb : R3 X b tb) : P3 X (.BinOp a .Add b pos) (x2 cAdd ta tb) := p3_op (op_add.or (op_add_str.or (op_catA.or op_cat))) con_add ha hb

/-! ### a * b of any kind -/
def cMul : C2 := fun r1 x y r Q => match x, y with
  | .d (.int i), .d (.int j) => MulOk i j ∧ Q (.d (.int (i * j))) r
  | .own _ l, .d (.int j) => r = r1 ∧ alld l = true ∧ 0 ≤ j ∧ l.length * j.toNat ≤ sizeLine ∧ l.length * j.toNat < 2 ^ 24 + 1 ∧ j < 2 ^ 63 ∧ ∀ p, Q (.own p (List.replicate j.toNat l).flatten) r
  | .d (.list l), .d (.int j) => 0 ≤ j ∧ l.length * j.toNat ≤ sizeLine ∧ j < 2 ^ 63 ∧ ∀ p, Q (.own p ((List.replicate j.toNat l).flatten.map T.d)) r
  | .d (.tuple l), .d (.int j) => l ≠ [] ∧ 2 ≤ j ∧ j ≤ 1000 ∧ l.length ≤ 1000 ∧ Q (.d (.tuple (List.replicate j.toNat l).flatten)) r
  | _, _ => False
theorem rep_map {α β : Type} (f : α → β) (n : Nat) (l : List α) : (List.replicate n l).flatten.map f = (List.replicate n (l.map f)).flatten := by
  induction n with
  | zero => rfl
  | succ n ih => rw [List.replicate_succ, List.flatten_cons, List.map_append, ih, List.replicate_succ, List.flatten_cons]
theorem con_mul : Con2P X (fun x y H Q => (rI MulOk fun i j => .int (i * j)) x y H Q ∨ rRep x y H Q ∨ rRepT X.K x y H Q) cMul :=
  fun G Z H ks vs r1 r s x y tx ty Q Q3 st px py hc k => by
    have rep : ∀ {a : Addr} {xs : List V} {l : List PyData} {j : Int}, H a = some (.lst xs) → DqAll X.K Z xs l → 0 ≤ j → l.length * j.toNat ≤ sizeLine → j < 2 ^ 63 → (∀ p, Q3 (.own p ((List.replicate j.toNat l).flatten.map T.d)) r) → rRep (.ref a) (.int j) H Q :=
      fun {a xs l j} h1 d1 j0 hz j63 q => ⟨a, j, xs, rfl, rfl, h1, by omega, j63, by rw [← dpa_len d1]; exact hz, fun p hp => k Z _ _ _ r (Gr.refl _ _) (st.newD (dpa_rep _ d1) hp) (q p)⟩
    unfold cMul at hc
    split at hc
    · rename_i i j
      cases px.dat _ rfl
      cases py.int
      exact .inl ⟨i, j, rfl, rfl, hc.1, k Z H (.d (.int (i * j))) _ r (Gr.refl _ _) (st.pushD (.int _)) hc.2⟩
    · rename_i a1 l j
      cases py.int
      obtain ⟨xs, rfl, h1, d1, e1⟩ := own_data ((px.same hc.1).now st) hc.2.1
      have e2 : (fzs l).length = l.length := by rw [dpa_len d1, e1]
      refine .inr (.inl (rep h1 d1 hc.2.2.1 (by rw [e2]; exact hc.2.2.2.1) hc.2.2.2.2.2.1 ?_))
      rw [rep_map, ← alld_eq hc.2.1]
      exact hc.2.2.2.2.2.2
    · rename_i l j
      cases py.int
      cases px.dat _ rfl with
      | lst hs ha => exact .inr (.inl (rep (st.zh _ _ hs) ha hc.1 hc.2.1 hc.2.2.1 hc.2.2.2))
    · rename_i l j
      cases py.int
      cases px.dat _ rfl with
      | @tup a1 xs _ hx ax =>
        refine .inr (.inr ⟨a1, j, xs, rfl, rfl, SqT.of (st.zh _ _ hx), fun e => hc.1 ?_, hc.2.1, hc.2.2.1, by rw [← dpa_len ax]; exact hc.2.2.2.1, fun p hp => ?_⟩)
        · subst e
          cases ax
          rfl
        · obtain ⟨g4, st4⟩ := st.laidG (o := .tup (List.replicate j.toNat xs).flatten) hp
          exact k _ _ _ _ r g4 (st4.pushD (.tup upd_same (dpa_mono g4.sub _ _ (dpa_rep _ ax)))) hc.2.2.2.2
    · exact hc.elim
theorem p3_mul (ha : R3 X a ta) (hb : R3 X b tb) : P3 X (.BinOp a .Mult b pos) (x2 cMul ta tb) := p3_op (op_mul3.or (op_rep.or op_repT)) con_mul ha hb

/-! ### built-in functions of one and of two arguments -/
abbrev C1 := T → TE3
def x1 (c : C1) (ta : TE3) : TE3 := fun r Q => ta r fun x r1 => c x r1 Q
def Con1 (X : Cx) (rd : List V → Hp → VK → Prop) (c : C1) : Prop := ∀ (G Z H : Hp) (ks : List T) (vs : List V) (r : Rho) (s : L2.St) (x : V) (tx : T) (Q : VK) (Q3 : T → Rho → Prop), S3 X.K G Z H ks vs r s → Pv X.K Z r s tx x → c tx r Q3 →
  (∀ Z' H' t v r', Gr G Z Z' → S3 X.K G Z' H' ks vs r' s → Pv X.K Z' r' s t v → Q3 t r' → Q v H') → rd [x] H Q
def Con1P (X : Cx) (rd : List V → Hp → VK → Prop) (c : C1) : Prop := ∀ (G Z H : Hp) (ks : List T) (vs : List V) (r : Rho) (s : L2.St) (x : V) (tx : T) (Q : VK) (Q3 : T → Rho → Prop), S3 X.K G Z H ks vs r s → Pv X.K Z r s tx x → c tx r Q3 →
  (∀ Z' H' t v r', Gr G Z Z' → S3 X.K G Z' H' (t :: ks) (v :: vs) r' s → Q3 t r' → Q v H') → rd [x] H Q
variable {id : String} {x : Str} {rd : List V → Hp → VK → Prop} {p : Pos}
theorem r3_callB {c : C1} (hc : CallR X (.builtin id) rd) (cn : Con1 X rd c) (hg : Gl X x) (hm : X.mg x = none) (hv : bootBuiltins x = some (.builtin id)) (ha : R3 X a ta) (hn : x ≠ "__name__" := by decide) (hdb : (x == ("__debug__" : Str)) = false := by decide)
    (he : starEach [a] X.env = (false, eval a X.env) :: starEach [] X.env := by rfl) (hpl : (backTo pos (starEach [] X.env)).any (·.1) = false := by rfl) : R3 X (.Call (.Name x p) [a] [] pos) (x1 c ta) := by
  obtain ⟨tea, ea, sa⟩ := ha.ex
  exact ⟨_, pe_callB hc hg hm hv (pa_cons ea pa_nil he) hn hdb he hpl, fun G Z H ks vs r s Q Q3 st ht k => sa G Z H ks vs r s _ _ st ht fun Z1 H1 x v r1 g1 st1 pv q =>
    cn G Z1 H1 ks vs r1 s v x Q Q3 st1 pv q fun Z2 H2 t w r2 g2 => k Z2 H2 t w r2 (g1.trans g2)⟩
theorem p3_callB {c : C1} (hc : CallR X (.builtin id) rd) (cn : Con1P X rd c) (hg : Gl X x) (hm : X.mg x = none) (hv : bootBuiltins x = some (.builtin id)) (ha : R3 X a ta) (hn : x ≠ "__name__" := by decide) (hdb : (x == ("__debug__" : Str)) = false := by decide)
    (he : starEach [a] X.env = (false, eval a X.env) :: starEach [] X.env := by rfl) (hpl : (backTo pos (starEach [] X.env)).any (·.1) = false := by rfl) : P3 X (.Call (.Name x p) [a] [] pos) (x1 c ta) := by
  obtain ⟨tea, ea, sa⟩ := ha.ex
  exact ⟨_, pe_callB hc hg hm hv (pa_cons ea pa_nil he) hn hdb he hpl, fun G Z H ks vs r s Q Q3 st ht k => sa G Z H ks vs r s _ _ st ht fun Z1 H1 x v r1 g1 st1 pv q =>
    cn G Z1 H1 ks vs r1 s v x Q Q3 st1 pv q fun Z2 H2 t w r2 g2 => k Z2 H2 t w r2 (g1.trans g2)⟩
theorem r3_callT {c : C1} (hc : CallR X (.type id) rd) (cn : Con1 X rd c) (hg : Gl X x) (hm : X.mg x = none) (hv : bootBuiltins x = some (.type id)) (ha : R3 X a ta) (hn : x ≠ "__name__" := by decide) (hdb : (x == ("__debug__" : Str)) = false := by decide)
    (he : starEach [a] X.env = (false, eval a X.env) :: starEach [] X.env := by rfl) (hpl : (backTo pos (starEach [] X.env)).any (·.1) = false := by rfl) : R3 X (.Call (.Name x p) [a] [] pos) (x1 c ta) := by
  obtain ⟨tea, ea, sa⟩ := ha.ex
  exact ⟨_, pe_callTy hc hg hm hv (pa_cons ea pa_nil he) hn hdb he hpl, fun G Z H ks vs r s Q Q3 st ht k => sa G Z H ks vs r s _ _ st ht fun Z1 H1 x v r1 g1 st1 pv q =>
    cn G Z1 H1 ks vs r1 s v x Q Q3 st1 pv q fun Z2 H2 t w r2 g2 => k Z2 H2 t w r2 (g1.trans g2)⟩
theorem p3_callT {c : C1} (hc : CallR X (.type id) rd) (cn : Con1P X rd c) (hg : Gl X x) (hm : X.mg x = none) (hv : bootBuiltins x = some (.type id)) (ha : R3 X a ta) (hn : x ≠ "__name__" := by decide) (hdb : (x == ("__debug__" : Str)) = false := by decide)
    (he : starEach [a] X.env = (false, eval a X.env) :: starEach [] X.env := by rfl) (hpl : (backTo pos (starEach [] X.env)).any (·.1) = false := by rfl) : P3 X (.Call (.Name x p) [a] [] pos) (x1 c ta) := by
  obtain ⟨tea, ea, sa⟩ := ha.ex
  exact ⟨_, pe_callTy hc hg hm hv (pa_cons ea pa_nil he) hn hdb he hpl, fun G Z H ks vs r s Q Q3 st ht k => sa G Z H ks vs r s _ _ st ht fun Z1 H1 x v r1 g1 st1 pv q =>
    cn G Z1 H1 ks vs r1 s v x Q Q3 st1 pv q fun Z2 H2 t w r2 g2 => k Z2 H2 t w r2 (g1.trans g2)⟩
theorem r3_callB2 {c : C2} (hc : CallR X (.builtin id) rd) (cn : Con2 X (fun x y => rd [x, y]) c) (hg : Gl X x) (hm : X.mg x = none) (hv : bootBuiltins x = some (.builtin id)) (ha : R3 X a ta) (hb : R3 X b tb) (hn : x ≠ "__name__" := by decide) (hdb : (x == ("__debug__" : Str)) = false := by decide)
    (he : starEach [a, b] X.env = (false, eval a X.env) :: starEach [b] X.env := by rfl) (he2 : starEach [b] X.env = (false, eval b X.env) :: starEach [] X.env := by rfl) (hpl : (backTo pos (starEach [b] X.env)).any (·.1) = false := by rfl) : R3 X (.Call (.Name x p) [a, b] [] pos) (x2 c ta tb) := by
  obtain ⟨tea, ea, sa⟩ := ha.ex
  obtain ⟨teb, eb, sb⟩ := hb.ex
  exact ⟨_, pe_callB hc hg hm hv (pa_cons ea (pa_cons eb pa_nil he2) he) hn hdb he hpl, fun G Z H ks vs r s Q Q3 st ht k => two_run cn sa sb G Z H ks vs r s Q Q3 st ht k⟩

/-- len(x) -/
def cLen : C1 := fun x r Q => match x with
  | .d (.list l) => Q (.d (.int l.length)) r
  | .d (.tuple l) => Q (.d (.int l.length)) r
  | .d (.str z) => z.length ≤ sizeLine ∧ Q (.d (.int z.length)) r
  | .sc _ ns => Q (.d (.int ns.length)) r
  | .own _ l => Q (.d (.int l.length)) r
  | .tp l => Q (.d (.int l.length)) r
  | _ => False
theorem con_len : Con1 X (fun xs H Q => ∃ x n, xs = [x] ∧ LenV X.K x H n ∧ Q (.int n) H) cLen := fun G Z H ks vs r s x tx Q Q3 st px hc k => by
  have fin : ∀ {n : Nat}, Q3 (.d (.int n)) r → Q (.int n) H := fun q => k Z H (.d (.int _)) _ r (Gr.refl _ _) st (Dq.int _) q
  unfold cLen at hc
  split at hc
  · cases (show Dq X.K Z x (.list _) from px) with
    | lst hs ha => exact ⟨_, _, rfl, .inl ⟨_, SqL.of (st.zh _ _ hs), rfl⟩, fin (by rw [← dpa_len ha]; exact hc)⟩
  · cases (show Dq X.K Z x (.tuple _) from px) with
    | tup hs ha => exact ⟨_, _, rfl, .inr ⟨_, SqT.of (st.zh _ _ hs), rfl⟩, fin (by rw [← dpa_len ha]; exact hc)⟩
  · cases px.str
    exact ⟨_, _, rfl, ⟨hc.1, rfl⟩, fin hc.2⟩
  · obtain ⟨rfl, hs⟩ := px
    exact ⟨_, _, rfl, .inl ⟨_, st.zh.L hs, rfl⟩, fin (by rw [List.length_map]; exact hc)⟩
  · have rt := px.now st
    cases rt with
    | own h1 h2 => exact ⟨_, _, rfl, .inl ⟨_, SqL.of h1, rfl⟩, fin (by rw [← rts_len h2]; exact hc)⟩
  · have rt := px.now st
    cases rt with
    | tp h1 h2 => exact ⟨_, _, rfl, .inr ⟨_, SqT.of (st.zh _ _ h1), rfl⟩, fin (by rw [← rts_len h2]; exact hc)⟩
  · exact hc.elim
theorem r3_len (hg : Gl X "len") (hm : X.mg "len" = none) (ha : R3 X a ta) (he : starEach [a] X.env = (false, eval a X.env) :: starEach [] X.env := by rfl) : R3 X (.Call (.Name "len" p) [a] [] pos) (x1 cLen ta) := r3_callB call_len con_len hg hm PySem.boot_len ha (by decide) (by decide) he
/-- abs(i) -/
def cAbs : C1 := fun x r Q => asI x fun i => Q (.d (.int i.natAbs)) r
theorem con_abs : Con1 X (fun xs H Q => ∃ i, xs = [.int i] ∧ Q (.int (if i < 0 then -i else i)) H) cAbs := fun G Z H ks vs r s x tx Q Q3 st px hc k => by
  obtain ⟨i, rfl, q⟩ := asI_of hc
  cases px.int
  have e : (if i < 0 then -i else i) = (i.natAbs : Int) := by split <;> omega
  refine ⟨i, rfl, ?_⟩
  rw [e]
  exact k Z H (.d (.int _)) _ r (Gr.refl _ _) st (Dq.int _) q
theorem r3_abs (hg : Gl X "abs") (hm : X.mg "abs" = none) (ha : R3 X a ta) (he : starEach [a] X.env = (false, eval a X.env) :: starEach [] X.env := by rfl) : R3 X (.Call (.Name "abs" p) [a] [] pos) (x1 cAbs ta) := r3_callB call_abs con_abs hg hm boot_abs ha (by decide) (by decide) he
/-- intL of a list -/
def asIs (t : T) (k : List Int → Prop) : Prop := match t with
  | .d (.list l) => allI l = true ∧ k (intL l)
  | .own _ l => alld l = true ∧ allI (fzs l) = true ∧ k (intL (fzs l))
  | .sc _ ns => k ns
  | _ => False
theorem asIs_of {K : PySem.W.Frag} {G Z H : Hp} {ks : List T} {vs : List V} {r : Rho} {s : L2.St} {t : T} {v : V} {k : List Int → Prop} (h : asIs t k) (st : S3 K G Z H ks vs r s) (p : Pv K Z r s t v) : ∃ a ns, v = .ref a ∧ SqL K H a (ns.map V.int) ∧ k ns := by
  unfold asIs at h
  split at h
  · rename_i l
    cases (show Dq K Z v (.list _) from p) with
    | @lst a xs _ hs ha =>
      have e := allI_eq h.1
      rw [e] at ha
      rw [dqa_inv ha] at hs
      exact ⟨a, _, rfl, SqL.of (st.zh _ _ hs), h.2⟩
  · rename_i a l
    obtain ⟨xs, rfl, h1, d1, _⟩ := own_data (p.now st) h.1
    rw [allI_eq h.2.1] at d1
    rw [dqa_inv d1] at h1
    exact ⟨a, _, rfl, SqL.of h1, h.2.2⟩
  · rename_i a ns
    exact ⟨a, ns, p.1, st.zh.L p.2, h⟩
  · exact h.elim
def cSum : C1 := fun x r Q => asIs x fun ns => Q (.d (.int ns.sum)) r
theorem con_sum : Con1 X (rSum X.K) cSum := fun G Z H ks vs r s x tx Q Q3 st px hc k => by
  obtain ⟨a, ns, rfl, hs, q⟩ := asIs_of hc st px
  exact ⟨a, ns, rfl, hs, k Z H (.d (.int _)) _ r (Gr.refl _ _) st (Dq.int _) q⟩
theorem r3_sum (hc : X.calm = true) (hg : Gl X "sum") (hm : X.mg "sum" = none) (ha : R3 X a ta) (he : starEach [a] X.env = (false, eval a X.env) :: starEach [] X.env := by rfl) : R3 X (.Call (.Name "sum" p) [a] [] pos) (x1 cSum ta) := r3_callB (cr_sum hc) con_sum hg hm boot_sum ha (by decide) (by decide) he
def cMaxL : C1 := fun x r Q => asIs x fun ns => ns ≠ [] ∧ Q (.d (.int (maxL ns))) r
def cMinL : C1 := fun x r Q => asIs x fun ns => ns ≠ [] ∧ Q (.d (.int (minL ns))) r
theorem con_max : Con1 X (rMax X.K) cMaxL := fun G Z H ks vs r s x tx Q Q3 st px hc k => by
  obtain ⟨a, ns, rfl, hs, hn, q⟩ := asIs_of hc st px
  refine ⟨a, ns, rfl, hs, List.length_pos_iff.mpr hn, fun m hm hy => ?_⟩
  have e : m = maxL ns := Int.le_antisymm (maxL_ge hm) (hy _ (maxL_mem hn))
  rw [e]
  exact k Z H (.d (.int _)) _ r (Gr.refl _ _) st (Dq.int _) q
theorem con_min : Con1 X (rMin X.K) cMinL := fun G Z H ks vs r s x tx Q Q3 st px hc k => by
  obtain ⟨a, ns, rfl, hs, hn, q⟩ := asIs_of hc st px
  refine ⟨a, ns, rfl, hs, List.length_pos_iff.mpr hn, fun m hm hy => ?_⟩
  have e : m = minL ns := Int.le_antisymm (hy _ (minL_mem hn)) (minL_le hm)
  rw [e]
  exact k Z H (.d (.int _)) _ r (Gr.refl _ _) st (Dq.int _) q
theorem r3_maxL (hc : X.calm = true) (hg : Gl X "max") (hm : X.mg "max" = none) (ha : R3 X a ta) (he : starEach [a] X.env = (false, eval a X.env) :: starEach [] X.env := by rfl) : R3 X (.Call (.Name "max" p) [a] [] pos) (x1 cMaxL ta) := r3_callB (cr_max hc) con_max hg hm boot_max ha (by decide) (by decide) he
theorem r3_minL (hc : X.calm = true) (hg : Gl X "min") (hm : X.mg "min" = none) (ha : R3 X a ta) (he : starEach [a] X.env = (false, eval a X.env) :: starEach [] X.env := by rfl) : R3 X (.Call (.Name "min" p) [a] [] pos) (x1 cMinL ta) := r3_callB (cr_min hc) con_min hg hm boot_min ha (by decide) (by decide) he
theorem con_max2 : Con2 X (fun x y H Q => ∃ i j, [x, y] = [V.int i, V.int j] ∧ Q (.int (if j > i then j else i)) H) (cI0 fun i j => .int (max i j)) := fun G Z H ks vs r1 r s x y tx ty Q Q3 st px py hc k => by
  obtain ⟨i, rfl, h1⟩ := asI_of hc
  obtain ⟨j, rfl, q⟩ := asI_of h1
  cases px.int
  cases py.int
  have e : (if j > i then j else i) = max i j := by split <;> omega
  refine ⟨i, j, rfl, ?_⟩
  rw [e]
  exact k Z H (.d (.int _)) _ r (Gr.refl _ _) st (Dq.int _) q
theorem con_min2 : Con2 X (fun x y H Q => ∃ i j, [x, y] = [V.int i, V.int j] ∧ Q (.int (if j < i then j else i)) H) (cI0 fun i j => .int (min i j)) := fun G Z H ks vs r1 r s x y tx ty Q Q3 st px py hc k => by
  obtain ⟨i, rfl, h1⟩ := asI_of hc
  obtain ⟨j, rfl, q⟩ := asI_of h1
  cases px.int
  cases py.int
  have e : (if j < i then j else i) = min i j := by split <;> omega
  refine ⟨i, j, rfl, ?_⟩
  rw [e]
  exact k Z H (.d (.int _)) _ r (Gr.refl _ _) st (Dq.int _) q
theorem r3_max2 (hc : X.calm = true) (hg : Gl X "max") (hm : X.mg "max" = none) (ha : R3 X a ta) (hb : R3 X b tb) (he : starEach [a, b] X.env = (false, eval a X.env) :: starEach [b] X.env := by rfl) (he2 : starEach [b] X.env = (false, eval b X.env) :: starEach [] X.env := by rfl) (hpl : (backTo pos (starEach [b] X.env)).any (·.1) = false := by rfl) :
    R3 X (.Call (.Name "max" p) [a, b] [] pos) (x2 (cI0 fun i j => .int (max i j)) ta tb) := r3_callB2 (call_max2 hc) con_max2 hg hm boot_max ha hb (by decide) (by decide) he he2 hpl
theorem r3_min2 (hc : X.calm = true) (hg : Gl X "min") (hm : X.mg "min" = none) (ha : R3 X a ta) (hb : R3 X b tb) (he : starEach [a, b] X.env = (false, eval a X.env) :: starEach [b] X.env := by rfl) (he2 : starEach [b] X.env = (false, eval b X.env) :: starEach [] X.env := by rfl) (hpl : (backTo pos (starEach [b] X.env)).any (·.1) = false := by rfl) :
    R3 X (.Call (.Name "min" p) [a, b] [] pos) (x2 (cI0 fun i j => .int (min i j)) ta tb) := r3_callB2 (call_min2 hc) con_min2 hg hm boot_min ha hb (by decide) (by decide) he he2 hpl
/-- tuple(x) -/
def cTup : C1 := fun x r Q => match x with
  | .d (.list l) => Q (.d (.tuple l)) r
  | .d (.tuple l) => Q (.d (.tuple l)) r
  | .own _ l => alld l = true ∧ Q (.d (.tuple (fzs l))) r
  | .sc _ ns => Q (.d (.tuple (ns.map PyData.int))) r
  | _ => False
theorem con_tup : Con1 X (fun xs H Q => ∃ p ys, xs = [.ref p] ∧ ((SqL X.K H p ys ∧ ∀ l, H l = none → Q (.ref l) (upd H l (.tup ys))) ∨ (SqT X.K H p ys ∧ Q (.ref p) H))) cTup := fun G Z H ks vs r s x tx Q Q3 st px hc k => by
  have new : ∀ {xs : List V} {l : List PyData}, DqAll X.K Z xs l → Q3 (.d (.tuple l)) r → ∀ p, H p = none → Q (.ref p) (upd H p (.tup xs)) := fun {xs l} hd q p hp => by
    obtain ⟨g4, st4⟩ := st.laidG (o := .tup xs) hp
    exact k _ _ (.d (.tuple l)) _ r g4 st4 (Dq.tup upd_same (dpa_mono g4.sub _ _ hd)) q
  unfold cTup at hc
  split at hc
  · cases (show Dq X.K Z x (.list _) from px) with
    | lst hs ha => exact ⟨_, _, rfl, .inl ⟨SqL.of (st.zh _ _ hs), new ha hc⟩⟩
  · cases (show Dq X.K Z x (.tuple _) from px) with
    | tup hs ha => exact ⟨_, _, rfl, .inr ⟨SqT.of (st.zh _ _ hs), k Z H (.d (.tuple _)) _ r (Gr.refl _ _) st (Dq.tup hs ha) hc⟩⟩
  · obtain ⟨xs, rfl, h1, d1, _⟩ := own_data (px.now st) hc.1
    exact ⟨_, _, rfl, .inl ⟨SqL.of h1, new d1 hc.2⟩⟩
  · obtain ⟨rfl, hs⟩ := px
    exact ⟨_, _, rfl, .inl ⟨st.zh.L hs, new (dqa_ints _) hc⟩⟩
  · exact hc.elim
theorem r3_tuple (hg : Gl X "tuple") (hm : X.mg "tuple" = none) (ha : R3 X a ta) (he : starEach [a] X.env = (false, eval a X.env) :: starEach [] X.env := by rfl) : R3 X (.Call (.Name "tuple" p) [a] [] pos) (x1 cTup ta) := r3_callT call_tuple_of con_tup hg hm boot_tuple ha (by decide) (by decide) he
/-- list(x) -/
def cLst : C1 := fun x r Q => match x with
  | .d (.list l) => ∀ p, Q (.own p (l.map T.d)) r
  | .d (.tuple l) => ∀ p, Q (.own p (l.map T.d)) r
  | .own _ l => alld l = true ∧ ∀ p, Q (.own p l) r
  | .sc _ ns => ∀ p, Q (.own p (ns.map fun n => T.d (.int n))) r
  | _ => False
theorem con_lst : Con1P X (fun xs H Q => ∃ p ys, xs = [.ref p] ∧ (SqL X.K H p ys ∨ SqT X.K H p ys) ∧ ∀ l, H l = none → Q (.ref l) (upd H l (.lst ys))) cLst := fun G Z H ks vs r s x tx Q Q3 st px hc k => by
  have new : ∀ {xs : List V} {l : List PyData}, DqAll X.K Z xs l → (∀ p, Q3 (.own p (l.map T.d)) r) → ∀ p, H p = none → Q (.ref p) (upd H p (.lst xs)) := fun {xs l} hd q p hp => k Z _ _ _ r (Gr.refl _ _) (st.newD hd hp) (q p)
  unfold cLst at hc
  split at hc
  · cases (show Dq X.K Z x (.list _) from px) with
    | lst hs ha => exact ⟨_, _, rfl, .inl (SqL.of (st.zh _ _ hs)), new ha hc⟩
  · cases (show Dq X.K Z x (.tuple _) from px) with
    | tup hs ha => exact ⟨_, _, rfl, .inr (SqT.of (st.zh _ _ hs)), new ha hc⟩
  · obtain ⟨xs, rfl, h1, d1, _⟩ := own_data (px.now st) hc.1
    exact ⟨_, _, rfl, .inl (SqL.of h1), new d1 (by rw [← alld_eq hc.1]; exact hc.2)⟩
  · obtain ⟨rfl, hs⟩ := px
    exact ⟨_, _, rfl, .inl (st.zh.L hs), new (dqa_ints _) (fun p => by rw [List.map_map]; exact hc p)⟩
  · exact hc.elim
theorem p3_list (hg : Gl X "list") (hm : X.mg "list" = none) (ha : R3 X a ta) (he : starEach [a] X.env = (false, eval a X.env) :: starEach [] X.env := by rfl) : P3 X (.Call (.Name "list" p) [a] [] pos) (x1 cLst ta) := p3_callT call_list_of con_lst hg hm boot_list ha (by decide) (by decide) he
/-- str(i) -/
def cStr : C1 := fun x r Q => asI x fun i => i.natAbs.log2 < 1920 ∧ Q (.d (.str (toString i))) r
theorem con_str : Con1 X (fun xs H Q => ∃ i, xs = [.int i] ∧ i.natAbs.log2 < 1920 ∧ Q (.str (toString i)) H) cStr := fun G Z H ks vs r s x tx Q Q3 st px hc k => by
  obtain ⟨i, rfl, h1, q⟩ := asI_of hc
  cases px.int
  exact ⟨i, rfl, h1, k Z H (.d (.str _)) _ r (Gr.refl _ _) st (Dq.str _) q⟩
theorem r3_str_ (hg : Gl X "str") (hm : X.mg "str" = none) (ha : R3 X a ta) (he : starEach [a] X.env = (false, eval a X.env) :: starEach [] X.env := by rfl) : R3 X (.Call (.Name "str" p) [a] [] pos) (x1 cStr ta) := r3_callT call_str_int con_str hg hm boot_str ha (by decide) (by decide) he
/-- int(x): an int, a truth, a text -/
def cInt : C1 := fun x r Q => match x with
  | .d (.int i) => Q (.d (.int i)) r
  | .d (.bool b) => Q (.d (.int (if b then 1 else 0))) r
  | .d (.str z) => ∃ n, PySem.intText? z = some n ∧ z.length ≤ 640 ∧ Q (.d (.int n)) r
  | _ => False
theorem con_int : Con1 X (fun xs H Q => ((∃ i, xs = [.int i] ∧ Q (.int i) H) ∨ ∃ k, xs = [.bl k] ∧ Q (.int (if k then 1 else 0)) H) ∨ ∃ a n, xs = [.str a] ∧ PySem.intText? a = some n ∧ a.length ≤ 640 ∧ Q (.int n) H) cInt := fun G Z H ks vs r s x tx Q Q3 st px hc k => by
  unfold cInt at hc
  split at hc
  · cases px.int
    exact .inl (.inl ⟨_, rfl, k Z H (.d (.int _)) _ r (Gr.refl _ _) st (Dq.int _) hc⟩)
  · cases px.bool
    exact .inl (.inr ⟨_, rfl, k Z H (.d (.int _)) _ r (Gr.refl _ _) st (Dq.int _) hc⟩)
  · cases px.str
    obtain ⟨n, h1, h2, q⟩ := hc
    exact .inr ⟨_, n, rfl, h1, h2, k Z H (.d (.int _)) _ r (Gr.refl _ _) st (Dq.int _) q⟩
  · exact hc.elim
theorem r3_int_ (hg : Gl X "int") (hm : X.mg "int" = none) (ha : R3 X a ta) (he : starEach [a] X.env = (false, eval a X.env) :: starEach [] X.env := by rfl) : R3 X (.Call (.Name "int" p) [a] [] pos) (x1 cInt ta) := r3_callT (call_int1.or call_int_str) con_int hg hm boot_int ha (by decide) (by decide) he
end
end L3
namespace L3
open PySem PySem.Spec PyProof.Rows L2

/-! ### a list of one's own is written -/
section
variable {K : PySem.W.Frag} {G Z H : Hp} {ks : List T} {vs : List V} {r : Rho} {s : L2.St} {t : T} {v : V} {a b : Addr} {l l' m m' : List T} {xs xs' : List V}
theorem S3.ownAt (h : S3 K G Z H (t :: .own a l :: ks) (v :: .ref a :: vs) r s) : ∃ xs, H a = some (.lst xs) ∧ RTs K Z H l xs ∧ RT K Z H t v ∧ RTs K Z H ks vs ∧ ct a t = 0 ∧ cts a l = 0 ∧ cts a ks = 0 ∧ cto a r = 0 := by
  have h1 := h.one a
  simp only [cts, ct, if_true] at h1
  cases h.stk with
  | cons q1 q2 =>
    cases q2 with
    | cons q3 q4 =>
      cases q3 with
      | own e1 e2 => exact ⟨_, e1, e2, q1, q4, by omega, by omega, by omega, by omega⟩
theorem S3.write (h : S3 K G Z H (t :: .own a l :: ks) (v :: .ref a :: vs) r s) (rl : RTs K Z H l' xs') (hc : ∀ b, cts b l' ≤ ct b t + cts b l) : S3 K G Z (upd H a (.lst xs')) (.own a l' :: ks) (.ref a :: vs) r s := by
  obtain ⟨xs, e1, e2, e3, e4, c1, c2, c3, c4⟩ := h.ownAt
  have own1 := h.ow a (by simp only [cts, ct, if_true]; omega)
  have keep : ∀ b, b ≠ a → ∀ o, H b = some o → upd H a (.lst xs') b = some o := fun b hb o e => by rw [upd_ne hb]; exact e
  have na : ∀ b, 0 < cts b l' → b ≠ a := fun b hb e => by subst e; have := hc b; omega
  refine ⟨fun b o e => keep b (fun q => by rw [q, own1.1] at e; cases e) o (h.zh b o e), fun b o e => keep b (fun q => by rw [q, own1.2] at e; cases e) o (h.gh b o e), fun b => ?_, fun b c => h.ow b ?_, .cons (.own upd_same (rts_mono (Sub.refl _) _ _ (fun b hb => keep b (na b hb)) rl)) (rts_mono (Sub.refl _) _ _ (fun b hb => keep b (fun q => by subst q; omega)) e4), fun i u e => ?_, h.len⟩
  · have h1 := h.one b
    have h2 := hc b
    simp only [cts, ct] at h1 ⊢
    omega
  · have h2 := hc b
    simp only [cts, ct] at c ⊢
    omega
  · obtain ⟨w, e1, q⟩ := h.slot i u e
    exact ⟨w, e1, rt_mono (Sub.refl _) _ _ (fun b hb => keep b (fun q => by subst q; have := cto_get b r i u e; omega)) q⟩
/-- an inner one -/
theorem S3.write2 {i : Nat} {ys' : List V} (h : S3 K G Z H (t :: .own a l :: ks) (v :: .ref a :: vs) r s) (hi : l[i]? = some (.own b m)) (rl : RTs K Z H m' ys') (hc : ∀ c, cts c m' ≤ ct c t + cts c m) :
    S3 K G Z (upd H b (.lst ys')) (.own a (l.set i (.own b m')) :: ks) (.ref a :: vs) r s := by
  obtain ⟨xs, e1, e2, e3, e4, c1, c2, c3, c4⟩ := h.ownAt
  have hb1 := cts_get b l i _ hi
  simp only [ct, if_true] at hb1
  have h1 := h.one b
  simp only [cts, ct] at h1
  have hab : a ≠ b := fun q => by subst q; omega
  rw [if_neg hab] at h1
  have own1 := h.ow b (by simp only [cts, ct]; omega)
  have keep : ∀ c, c ≠ b → ∀ o, H c = some o → upd H b (.lst ys') c = some o := fun c hc o e => by rw [upd_ne hc]; exact e
  have cset : ∀ c, cts c (l.set i (.own b m')) + cts c m = cts c l + cts c m' := fun c => by
    have := cts_set c l i _ (.own b m') hi
    simp only [ct] at this
    omega
  have nb : ∀ c, 0 < cts c m' → c ≠ b := fun c hc' e => by subst e; have := hc c; have := cts_get c l i _ hi; simp only [ct, if_true] at this; omega
  have items : ∀ {l : List T} {xs : List V} {i : Nat}, RTs K Z H l xs → l[i]? = some (.own b m) → cts b l ≤ 1 → RTs K Z (upd H b (.lst ys')) (l.set i (.own b m')) xs := by
    intro l
    induction l with
    | nil => intro xs i q e; simp at e
    | cons x l ih =>
      intro xs i q e cb
      cases q with
      | cons q1 q2 =>
        cases i with
        | zero =>
          have e' : x = .own b m := by simpa using e
          subst e'
          simp only [cts, ct, if_true] at cb
          cases q1 with
          | own k1 k2 => exact .cons (.own upd_same (rts_mono (Sub.refl _) _ _ (fun c hc => keep c (nb c hc)) rl)) (rts_mono (Sub.refl _) _ _ (fun c hc => keep c (fun q => by subst q; omega)) q2)
        | succ i =>
          have e' : l[i]? = some (.own b m) := by simpa using e
          have := cts_get b l i _ e'
          simp only [ct, if_true] at this
          simp only [cts] at cb
          exact .cons (rt_mono (Sub.refl _) _ _ (fun c hc => keep c (fun q => by subst q; omega)) q1) (ih q2 e' (by omega))
  refine ⟨fun c o e => keep c (fun q => by rw [q, own1.1] at e; cases e) o (h.zh c o e), fun c o e => keep c (fun q => by rw [q, own1.2] at e; cases e) o (h.gh c o e), fun c => ?_, fun c k => h.ow c ?_, .cons (.own (keep a hab _ e1) (items e2 hi (by omega))) (rts_mono (Sub.refl _) _ _ (fun c hc => keep c (fun q => by subst q; omega)) e4), fun j u e => ?_, h.len⟩
  · have h2 := h.one c
    have h3 := cset c
    have h4 := hc c
    simp only [cts, ct] at h2 ⊢
    omega
  · have h3 := cset c
    have h4 := hc c
    simp only [cts, ct] at k ⊢
    omega
  · obtain ⟨w, e1, q⟩ := h.slot j u e
    exact ⟨w, e1, rt_mono (Sub.refl _) _ _ (fun c hc => keep c (fun q => by subst q; have := cto_get c r j u e; omega)) q⟩
theorem rts_set : ∀ {l : List T} {xs : List V} (i : Nat), RTs K Z H l xs → RT K Z H t v → RTs K Z H (l.set i t) (xs.set i v)
  | _, _, _, .nil, _ => .nil
  | _, _, 0, .cons _ q, h => .cons h q
  | _, _, i + 1, .cons p q, h => .cons p (rts_set i q h)
theorem rts_snoc {l : List T} {xs : List V} (q : RTs K Z H l xs) (h : RT K Z H t v) : RTs K Z H (l ++ [t]) (xs ++ [v]) := rts_app q (.cons h .nil)
theorem S3.pushN (h : S3 K G Z H ks vs r s) : S3 K G Z H (.d .none :: ks) (.non :: vs) r s := h.pushD .non
end

/-! ### a call of a def -/
inductive Arg where
  | val (t : T) | io (i : Nat)
def ArgOk (K : PySem.W.Frag) (Z : Hp) (s : L2.St) (x : Arg) (v : V) : Prop :=
  match x with
  | .val (.d x) => Dq K Z v x
  | .val (.v x) => v = x
  | .val (.sc a ns) => v = .ref a ∧ SqL K Z a (ns.map V.int)
  | .val _ => False
  | .io i => s[i]? = some (some v)
theorem ArgOk.keep {K : PySem.W.Frag} {Z Z' : Hp} {s : L2.St} {x : Arg} {v : V} (h : ArgOk K Z s x v) (z : Sub Z Z') : ArgOk K Z' s x v := by
  cases x with
  | io i => exact h
  | val t =>
    cases t with
    | d x => exact dp_mono z x v h
    | v x => exact h
    | sc a ns => exact ⟨h.1, z.L h.2⟩
    | own _ _ => exact h
    | tp _ => exact h
abbrev TC3 := Rho → (List Arg → Rho → Prop) → Prop
structure C3 (X : Cx) (es : List Expr) (t : TC3) : Prop where
  ex : ∃ te : TA, PA X es te ∧ ∀ (G Z H : Hp) (ks : List T) (vs : List V) (r : Rho) (s : L2.St) (Q : List V → Hp → Prop) (Q3 : List Arg → Rho → Prop), S3 X.K G Z H ks vs r s → t r Q3 →
    (∀ Z' H' xs us r', Gr G Z Z' → S3 X.K G Z' H' ks vs r' s → Paired (ArgOk X.K Z' s) xs us → Q3 xs r' → Q us H') → te s H Q
section
variable {X : Cx} {e : Expr} {es : List Expr} {t : TE3} {u : TC3} {pos : Pos}
def xANil : TC3 := fun r Q => Q [] r
theorem c3_nil : C3 X [] xANil := ⟨_, pa_nil, fun G Z H ks vs r s Q Q3 st ht k => k Z H [] [] r (Gr.refl _ _) st .nil ht⟩
def xArg (t : TE3) (u : TC3) : TC3 := fun r Q => t r fun x r1 => match x with | .d y => u r1 fun as r2 => Q (.val (.d y) :: as) r2 | .v y => u r1 fun as r2 => Q (.val (.v y) :: as) r2 | .sc a ns => u r1 fun as r2 => Q (.val (.sc a ns) :: as) r2 | _ => False
theorem c3_val (ha : R3 X e t) (hr : C3 X es u) (hs : starEach (e :: es) X.env = (false, eval e X.env) :: starEach es X.env := by rfl) : C3 X (e :: es) (xArg t u) := by
  obtain ⟨tea, ea, sa⟩ := ha.ex
  obtain ⟨ter, er, sr⟩ := hr.ex
  refine ⟨_, pa_cons ea er hs, fun G Z H ks vs r s Q Q3 st ht k => sa G Z H ks vs r s _ _ st ht fun Z1 H1 x v r1 g1 st1 pv q1 => ?_⟩
  have fin : ∀ x : T, (∀ Z', Sub Z1 Z' → ArgOk X.K Z' s (.val x) v) → u r1 (fun as r2 => Q3 (.val x :: as) r2) → ter s H1 (fun us H2 => Q (v :: us) H2) := fun x ok q => sr G Z1 H1 ks vs r1 s _ _ st1 q fun Z2 H2 xs us r2 g2 st2 hp q2 =>
    k Z2 H2 (.val x :: xs) (v :: us) r2 (g1.trans g2) st2 (.cons (ok Z2 g2.sub) hp) q2
  cases x with
  | d y => exact fin (.d y) (fun Z' z => dp_mono z y v pv) q1
  | v y => exact fin (.v y) (fun Z' z => pv) q1
  | sc a ns => exact fin (.sc a ns) (fun Z' z => ⟨pv.1, z.L pv.2⟩) q1
  | own _ _ => exact q1.elim
  | tp _ => exact q1.elim
def xIo (i : Nat) (u : TC3) : TC3 := fun r Q => match r[i]? with | some (some _) => u r fun as r2 => Q (.io i :: as) r2 | _ => False
theorem c3_io (i : Nat) {x : Str} {p : Pos} (hr : C3 X es u) (hN : X.N[i]? = some x := by rfl) (hv : Vis X.env.scope x := by first | exact Or.inl rfl | exact Or.inr (Or.inl rfl) | exact Or.inr (Or.inr rfl)) (hd : (x == ("__debug__" : Str)) = false := by decide)
    (hcd : (x == ("__classdict__" : Str)) = false := by decide) (hs : starEach (.Name x p :: es) X.env = (false, eval (.Name x p) X.env) :: starEach es X.env := by rfl) : C3 X (.Name x p :: es) (xIo i u) := by
  obtain ⟨ter, er, sr⟩ := hr.ex
  refine ⟨_, pa_cons (pe_var hN hv hd hcd) er hs, fun G Z H ks vs r s Q Q3 st ht k => ?_⟩
  unfold xIo at ht
  split at ht
  · rename_i t e
    obtain ⟨v, ev, _⟩ := st.slot i t e
    exact ⟨v, ev, sr G Z H ks vs r s _ _ st ht fun Z2 H2 xs us r2 g2 st2 hp q2 => k Z2 H2 (.io i :: xs) (v :: us) r2 g2 st2 (.cons ev hp) q2⟩
  · exact ht.elim
end
def looks (r : Rho) : List Arg → Option (List T)
  | [] => some []
  | .val t :: as => (looks r as).map (t :: ·)
  | .io i :: as => match r[i]? with
    | some (some t) => (looks r as).map (t :: ·)
    | _ => none
def ios : List Arg → List Nat
  | [] => []
  | .val _ :: as => ios as
  | .io i :: as => i :: ios as
def puts (r : Rho) : List Arg → List T → Rho
  | .val _ :: as, _ :: ts => puts r as ts
  | .io i :: as, t :: ts => puts (r.set i (some t)) as ts
  | _, _ => r
def outs (r : Rho) : List Arg → Rho
  | [] => r
  | .val _ :: as => outs r as
  | .io i :: as => (outs r as).set i none
theorem outs_len (r : Rho) : ∀ as, (outs r as).length = r.length
  | [] => rfl
  | .val _ :: as => outs_len r as
  | .io i :: as => by show ((outs r as).set i none).length = _; rw [List.length_set, outs_len r as]
theorem outs_get {r : Rho} {j : Nat} : ∀ {as : List Arg}, j ∉ ios as → (outs r as)[j]? = r[j]?
  | [], _ => rfl
  | .val _ :: as, h => outs_get (as := as) h
  | .io i :: as, h => by
    have h1 : j ≠ i := fun e => h (by rw [e]; exact List.mem_cons_self ..)
    have h2 : j ∉ ios as := fun e => h (List.mem_cons_of_mem _ e)
    show ((outs r as).set i none)[j]? = _
    rw [List.getElem?_set_ne (Ne.symm h1)]
    exact outs_get h2
/-- a promise, by values: the arguments (lists of one's own may be changed), what is handed back and the arguments behind the call; an exception's class and the arguments -/
abbrev Sp3 := List T → (T → List T → Prop) → (Addr → List T → Prop) → Prop
def lift (K : PySem.W.Frag) (sp : Sp3) : Sp := fun vs H Q E => ∃ (G Z : Hp) (ts : List T) (Q3 : T → List T → Prop) (E3 : Addr → List T → Prop), S3 K G Z H ts vs [] [] ∧ sp ts Q3 E3 ∧
  (∀ Z' H' x v ts', Gr G Z Z' → S3 K G Z' H' (x :: ts') (v :: vs) [] [] → Q3 x ts' → Q v H') ∧
  (∀ Z' H' C ts', Gr G Z Z' → S3 K G Z' H' ts' vs [] [] → E3 C ts' → E (.ref C) none H')
section
variable {K : PySem.W.Frag} {G Z H : Hp} {ks : List T} {vs : List V} {r : Rho} {s : L2.St}
theorem S3.nil_ (h : S3 K G Z H ks vs r s) : S3 K G Z H ([] ++ ks) ([] ++ vs) r s := h
/-- the arguments taken out of the slots -/
theorem S3.args (h : S3 K G Z H ks vs r s) : ∀ {as : List Arg} {us : List V} {ts : List T}, Paired (ArgOk K Z s) as us → looks r as = some ts → (ios as).Nodup → ts.length = us.length ∧ S3 K G Z H (ts ++ ks) (us ++ vs) (outs r as) s
  | [], _, ts, .nil, e, _ => by
    cases e
    exact ⟨rfl, h⟩
  | .val t :: as, _, ts, .cons p q, e, nd => by
    simp only [looks, Option.map_eq_some_iff] at e
    obtain ⟨ts', e1, rfl⟩ := e
    obtain ⟨hl, st⟩ := h.args q e1 nd
    refine ⟨by simp [hl], ?_⟩
    cases t with
    | d x => exact st.pushD p
    | v x => exact st.push (fun _ => rfl) (by rw [show _ = x from p]; exact .v)
    | sc a ns => exact st.push (fun _ => rfl) (by rw [show _ = V.ref a from p.1]; exact .sc p.2)
    | own _ _ => exact p.elim
    | tp _ => exact p.elim
  | .io i :: as, _, ts, .cons p q, e, nd => by
    simp only [looks] at e
    split at e
    · rename_i t ht
      simp only [Option.map_eq_some_iff] at e
      obtain ⟨ts', e1, rfl⟩ := e
      have nd' : i ∉ ios as ∧ (ios as).Nodup := by
        have : (i :: ios as).Nodup := nd
        rw [List.nodup_cons] at this
        exact this
      obtain ⟨hl, st⟩ := h.args q e1 nd'.2
      refine ⟨by simp [hl], ?_⟩
      obtain ⟨v, ev, st2⟩ := st.take (i := i) (t := t) (by rw [outs_get nd'.1]; exact ht)
      have e2 : s[i]? = some (some _) := p
      rw [ev] at e2
      cases e2
      exact st2
    · cases e
theorem S3.ret : ∀ {as : List Arg} {us : List V} {ts : List T} {r r0 : Rho}, Paired (ArgOk K Z s) as us → ts.length = us.length → (ios as).Nodup → r0.length = r.length → (∀ i, i ∉ ios as → r0[i]? = r[i]?) → (∀ i ∈ ios as, r0[i]? = some none ∨ r0[i]? = none) → S3 K G Z H (ts ++ ks) (us ++ vs) r0 s → S3 K G Z H ks vs (puts r as ts) s
  | [], _, [], r, r0, .nil, _, _, hl, hr, _, h => by
    have e : r0 = r := List.ext_getElem? fun i => hr i (by simp [ios])
    rw [e] at h
    exact h
  | [], _, _ :: _, _, _, .nil, hl, _, _, _, _, _ => by simp at hl
  | .val t :: as, _, [], _, _, .cons p q, hl, _, _, _, _, _ => by simp at hl
  | .io t :: as, _, [], _, _, .cons p q, hl, _, _, _, _, _ => by simp at hl
  | .val t :: as, _, t' :: ts, r, r0, .cons p q, hl, nd, hl0, hr, hn, h => S3.ret (as := as) q (by simpa using hl) nd hl0 hr hn h.pop
  | .io i :: as, _, t' :: ts, r, r0, .cons p q, hl, nd, hl0, hr, hn, h => by
    have nd' : i ∉ ios as ∧ (ios as).Nodup := by
      have : (i :: ios as).Nodup := nd
      rw [List.nodup_cons] at this
      exact this
    by_cases hi : i < r0.length
    · have st := h.back hi p
      refine S3.ret (as := as) (r := r.set i (some t')) q (by simpa using hl) nd'.2 (by rw [List.length_set, List.length_set]; exact hl0) (fun j hj => ?_) (fun j hj => ?_) st
      · by_cases e : j = i
        · subst e
          rw [List.getElem?_set_self hi, List.getElem?_set_self (by omega)]
        · rw [List.getElem?_set_ne (Ne.symm e), List.getElem?_set_ne (Ne.symm e)]
          refine hr j fun z => ?_
          rcases List.mem_cons.mp z with z | z
          · exact e z
          · exact hj z
      · have e : j ≠ i := fun e => nd'.1 (e ▸ hj)
        rw [List.getElem?_set_ne (Ne.symm e)]
        exact hn j (List.mem_cons_of_mem _ hj)
    · have h2 := h.len
      have : i < s.length := (List.getElem?_eq_some_iff.mp (show s[i]? = some (some _) from p)).1
      omega
end
section
variable {X : Cx} {es : List Expr} {e : Expr} {u : TC3} {pos p : Pos} {sp : Sp3} {k : Nat} {f : Addr} {fd : FuncData} {ps : List Str} {x : Str}
def xCall (sp : Sp3) (E : Addr → List T → Prop) (u : TC3) : TE3 := fun r Q => u r fun as r1 => match looks r1 as with
  | some ts => (ios as).Nodup ∧ sp ts (fun x ts' => Q x (puts r1 as ts')) E
  | none => False
theorem outs_none {r : Rho} : ∀ {as : List Arg} {i : Nat}, i ∈ ios as → (outs r as)[i]? = some none ∨ (outs r as)[i]? = none
  | [], i, h => by simp [ios] at h
  | .val _ :: as, i, h => outs_none (as := as) h
  | .io j :: as, i, h => by
    show ((outs r as).set j none)[i]? = some none ∨ ((outs r as).set j none)[i]? = none
    by_cases e : i = j
    · subst e
      by_cases hi : i < (outs r as).length
      · left; rw [List.getElem?_set_self hi]
      · right; exact List.getElem?_eq_none (by rw [List.length_set]; omega)
    · rw [List.getElem?_set_ne (Ne.symm e)]
      rcases List.mem_cons.mp h with z | z
      · exact absurd z e
      · exact outs_none z
/-- from the caller's state to the callee's promise -/
theorem call_run {G Z H : Hp} {ks : List T} {vs : List V} {r : Rho} {s : L2.St} {as : List Arg} {us : List V} {Q : VK} {E : XK} {Q3 : T → Rho → Prop} {E3 : Addr → List T → Prop} (st : S3 X.K G Z H ks vs r s) (hp : Paired (ArgOk X.K Z s) as us)
    (h : match looks r as with | some ts => (ios as).Nodup ∧ sp ts (fun x ts' => Q3 x (puts r as ts')) E3 | none => False)
    (kq : ∀ Z' H' x v r', Gr G Z Z' → S3 X.K G Z' H' (x :: ks) (v :: vs) r' s → Q3 x r' → Q v H')
    (ke : ∀ Z' H' C ts' r', Gr G Z Z' → S3 X.K G Z' H' ks vs r' s → r' = puts r as ts' → E3 C ts' → E (.ref C) none H') : lift X.K sp us H Q E := by
  split at h
  · rename_i ts hl
    obtain ⟨nd, hsp⟩ := h
    obtain ⟨hlen, st1⟩ := st.args hp hl nd
    have splt : ∀ {Z H : Hp} {l : List T} {xs : List V}, l.length = xs.length → RTs X.K Z H (l ++ ks) (xs ++ vs) → RTs X.K Z H l xs ∧ RTs X.K Z H ks vs := by
      intro Z H l
      induction l with
      | nil => intro xs hl q; cases xs with | nil => exact ⟨.nil, q⟩ | cons _ _ => simp at hl
      | cons t l ih =>
        intro xs hl q
        cases xs with
        | nil => simp at hl
        | cons x xs =>
          cases q with
          | cons q1 q2 =>
            obtain ⟨z1, z2⟩ := ih (by simpa using hl) q2
            exact ⟨.cons q1 z1, z2⟩
    obtain ⟨s1, s2⟩ := splt hlen st1.stk
    -- the callee's part
    have sub : S3 X.K (fun a => if 0 < cts a ts then none else H a) Z H ts us [] [] := ⟨st1.zh, fun a o e => by
        by_cases c : 0 < cts a ts
        · simp [c] at e
        · simpa [c] using e, fun a => by have := st1.one a; rw [cts_append] at this; simp only [cto]; omega, fun a c => by
        simp only [cto, Nat.add_zero] at c
        exact ⟨(st1.ow a (by rw [cts_append]; omega)).1, if_pos c⟩, s1, fun i t e => by simp at e, rfl⟩
    -- behind the call
    have gr : ∀ {Z'}, Gr (fun a => if 0 < cts a ts then none else H a) Z Z' → Gr G Z Z' := fun {Z'} g => ⟨g.sub, fun a o e n => by
      have h1 : H a = some o := st1.gh a o e
      have h2 : ¬ 0 < cts a ts := fun c => by have := (st1.ow a (by rw [cts_append]; omega)).2; rw [this] at e; cases e
      exact g.out a o (by rw [if_neg h2]; exact h1) n⟩
    have back : ∀ {Z' H' : Hp} {ys : List T} {ws : List V}, Gr (fun a => if 0 < cts a ts then none else H a) Z Z' → ys.length = ws.length → S3 X.K (fun a => if 0 < cts a ts then none else H a) Z' H' ys ws [] [] → S3 X.K G Z' H' (ys ++ ks) (ws ++ vs) (outs r as) s := fun {Z' H' ys ws} g hy st2 => by
      have other : ∀ a, 0 < cts a ks + cto a (outs r as) → cts a ts = 0 ∧ (∃ xs, H a = some (.lst xs)) ∧ H' a = H a ∧ cts a ys = 0 ∧ Z' a = none := fun a c => by
        have h1 := st1.one a
        rw [cts_append] at h1
        have h0 : cts a ts = 0 := by omega
        obtain ⟨xs, e⟩ := st1.owned (a := a) (by rw [cts_append]; omega)
        have e2 : (fun a => if 0 < cts a ts then none else H a) a = some (.lst xs) := by show (if 0 < cts a ts then none else H a) = _; rw [if_neg (by omega)]; exact e
        have e3 := st2.gh a _ e2
        refine ⟨h0, ⟨xs, e⟩, by rw [e3, e], ?_, g.out a _ e2 (st1.ow a (by rw [cts_append]; omega)).1⟩
        by_cases c2 : 0 < cts a ys
        · have := (st2.ow a (by omega)).2
          have e4 : (if 0 < cts a ts then none else H a) = some (HO.lst xs) := e2
          have e5 : (if 0 < cts a ts then none else H a) = none := this
          rw [e4] at e5; cases e5
        · omega
      refine ⟨st2.zh, fun a o e => ?_, fun a => ?_, fun a c => ?_, ?_, fun i t e => ?_, st1.len⟩
      · have h1 : H a = some o := st1.gh a o e
        have h2 : ¬ 0 < cts a ts := fun c => by have := (st1.ow a (by rw [cts_append]; omega)).2; rw [this] at e; cases e
        exact st2.gh a o (by show (if 0 < cts a ts then none else H a) = _; rw [if_neg h2]; exact h1)
      · rw [cts_append]
        by_cases c : 0 < cts a ks + cto a (outs r as)
        · obtain ⟨_, _, _, h4, _⟩ := other a c
          have h1 := st1.one a
          rw [cts_append] at h1
          omega
        · have h2 := st2.one a
          simp only [cto] at h2
          omega
      · rw [cts_append] at c
        by_cases c2 : 0 < cts a ks + cto a (outs r as)
        · obtain ⟨h0, _, _, _, h5⟩ := other a c2
          exact ⟨h5, (st1.ow a (by rw [cts_append]; omega)).2⟩
        · have c3 : 0 < cts a ys + cto a ([] : Rho) := by simp only [cto]; omega
          obtain ⟨z1, z2⟩ := st2.ow a c3
          refine ⟨z1, ?_⟩
          cases q : G a with
          | none => rfl
          | some o =>
            have h1 : H a = some o := st1.gh a o q
            have h2 : ¬ 0 < cts a ts := fun c => by have := (st1.ow a (by rw [cts_append]; omega)).2; rw [this] at q; cases q
            have z2' : (if 0 < cts a ts then none else H a) = none := z2
            rw [if_neg h2, h1] at z2'; cases z2'
      · exact rts_app st2.stk (rts_mono g.sub _ _ (fun a c o e => by rw [(other a (by omega)).2.2.1]; exact e) s2)
      · obtain ⟨w, e1, q⟩ := st1.slot i t e
        exact ⟨w, e1, rt_mono g.sub _ _ (fun a c o e' => by rw [(other a (by have := cto_get a (outs r as) i t e; omega)).2.2.1]; exact e') q⟩
    refine ⟨_, Z, ts, _, _, sub, hsp, fun Z' H' x v ts' g st2 q => ?_, fun Z' H' C ts' g st2 q => ?_⟩
    · have hl2 : (x :: ts').length = (v :: us).length := rts_len st2.stk
      have st3 := back g hl2 st2
      have hl3 : ts'.length = us.length := by simpa using hl2
      have st4 : S3 X.K G Z' H' (ts' ++ x :: ks) (us ++ v :: vs) (outs r as) s := S3.mid' hl3 st3
      exact kq Z' H' x v _ (gr g) (S3.ret (Paired.mapP hp fun a b z => z.keep g.sub) hl3 nd (outs_len r as) (fun i hi => outs_get hi) (fun i hi => outs_none hi) st4) q
    · have hl2 : ts'.length = us.length := rts_len st2.stk
      have st3 := back g hl2 st2
      exact ke Z' H' C ts' _ (gr g) (S3.ret (Paired.mapP hp fun a b z => z.keep g.sub) hl2 nd (outs_len r as) (fun i hi => outs_get hi) (fun i hi => outs_none hi) st3) rfl q
  · exact h.elim
/-- f(..) of a def that raises nothing -/
theorem p3_call (F : FnOk X.prog X.w X.K X.mg X.base CX0 k f fd ps (lift X.K sp)) (hr : Room k X.A) (hg : Gl X x) (hm : X.mg x = some (.ref f)) (hk : PySem.W.keepIn X.K (.ref f) = true) (hb : Binds X.K fd ps []) (hu : C3 X (e :: es) u)
    (hdb : (x == ("__debug__" : Str)) = false := by decide) (he : starEach (e :: es) X.env = (false, eval e X.env) :: starEach es X.env := by rfl) (hpl : (backTo pos (starEach es X.env)).any (·.1) = false := by rfl) :
    P3 X (.Call (.Name x p) (e :: es) [] pos) (xCall sp (fun _ _ => False) u) := by
  obtain ⟨te, ea, sa⟩ := hu.ex
  refine ⟨_, pe_call F hr hg hm hk hb .nil pass0 ea hdb he hpl, fun G Z H ks vs r s Q Q3 st ht kk => sa G Z H ks vs r s _ _ st ht fun Z1 H1 as us r1 g1 st1 hp q => ?_⟩
  rw [List.append_nil]
  exact call_run st1 hp q (fun Z' H' x v r' g => kk Z' H' x v r' (g1.trans g)) fun _ _ _ _ _ _ _ _ z => z.elim
theorem p3_call0 (F : FnOk X.prog X.w X.K X.mg X.base CX0 k f fd ps (lift X.K sp)) (hr : Room k X.A) (hg : Gl X x) (hm : X.mg x = some (.ref f)) (hk : PySem.W.keepIn X.K (.ref f) = true) (hb : Binds X.K fd ps [])
    (hdb : (x == ("__debug__" : Str)) = false := by decide) : P3 X (.Call (.Name x p) [] [] pos) (xCall sp (fun _ _ => False) xANil) := by
  refine ⟨_, pe_call0 F hr hg hm hk hb .nil pass0 hdb, fun G Z H ks vs r s Q Q3 st ht kk => ?_⟩
  exact call_run (as := []) (us := []) st .nil ht (fun Z' H' x v r' g => kk Z' H' x v r' g) fun _ _ _ _ _ _ _ _ z => z.elim
end
end L3
namespace L3
open PySem PySem.Spec PyProof.Rows L2

structure Ends3 where
  nx : Rho → Prop
  rt : T → Rho → Prop
  bk : Rho → Prop := fun _ => False
  ct : Rho → Prop := fun _ => False
  ex : Addr → Rho → Prop := fun _ _ => False
abbrev TS3 := Ends3 → Rho → Prop
/-- what is wanted by values is what is wanted -/
structure Imp (K : PySem.W.Frag) (W : WX) (G Z : Hp) (D3 : Ends3) (D : Ends) : Prop where
  nx : ∀ Z' H' r s, Gr G Z Z' → S3 K G Z' H' [] [] r s → D3.nx r → D.nx s H'
  rt : ∀ Z' H' r s x v, Gr G Z Z' → S3 K G Z' H' [x] [v] r s → D3.rt x r → D.rt v H'
  bk : ∀ Z' H' r s, Gr G Z Z' → S3 K G Z' H' [] [] r s → D3.bk r → D.bk s H'
  ct : ∀ Z' H' r s, Gr G Z Z' → S3 K G Z' H' [] [] r s → D3.ct r → D.ct s H'
  ex : ∀ Z' H' C r s, Gr G Z Z' → S3 K G Z' H' [] [] r s → D3.ex C r → W (.ref C) none s H'
theorem Imp.mono {K : PySem.W.Frag} {W : WX} {G Z Z1 : Hp} {D3 : Ends3} {D : Ends} (h : Imp K W G Z D3 D) (g : Gr G Z Z1) : Imp K W G Z1 D3 D :=
  ⟨fun Z' H' r s g' => h.nx Z' H' r s (g.trans g'), fun Z' H' r s x v g' => h.rt Z' H' r s x v (g.trans g'), fun Z' H' r s g' => h.bk Z' H' r s (g.trans g'), fun Z' H' r s g' => h.ct Z' H' r s (g.trans g'), fun Z' H' C r s g' => h.ex Z' H' C r s (g.trans g')⟩
/-- a statement; a block -/
structure M3 (X : Cx) (st : Stmt) (t : TS3) : Prop where
  ex : ∀ W : WX, Takes X W → ∃ te : TS, PS X st te ∧ ∀ (G Z H : Hp) (r : Rho) (s : L2.St) (D : Ends) (D3 : Ends3), S3 X.K G Z H [] [] r s → t D3 r → Imp X.K W G Z D3 D → te D s H
structure B3 (X : Cx) (st : List Stmt) (t : TS3) : Prop where
  ex : ∀ W : WX, Takes X W → ∃ te : TS, PSs X st te ∧ ∀ (G Z H : Hp) (r : Rho) (s : L2.St) (D : Ends) (D3 : Ends3), S3 X.K G Z H [] [] r s → t D3 r → Imp X.K W G Z D3 D → te D s H
section
variable {X : Cx} {st : Stmt} {rest body : List Stmt} {t u : TS3} {e : Expr} {te : TE3} {tt : TT3} {pos : Pos}
def xNext : TS3 := fun D r => D.nx r
def xSeq (t u : TS3) : TS3 := fun D r => t { D with nx := u D } r
theorem b3_nil : B3 X [] xNext := ⟨fun _ _ => ⟨_, pss_nil, fun G Z H r s D D3 st ht im => im.nx Z H r s (Gr.refl _ _) st ht⟩⟩
theorem b3_cons (h1 : M3 X st t) (h2 : B3 X rest u) : B3 X (st :: rest) (xSeq t u) := by
  refine ⟨fun Wx tk => ?_⟩
  obtain ⟨tea, ea, sa⟩ := h1.ex Wx tk
  obtain ⟨teb, eb, sb⟩ := h2.ex Wx tk
  exact ⟨_, pss_cons ea eb, fun G Z H r s D D3 st ht im => sa G Z H r s _ _ st ht ⟨fun Z' H' r' s' g st' q => sb G Z' H' r' s' D D3 st' q (im.mono g), im.rt, im.bk, im.ct, im.ex⟩⟩
theorem b3_one (h1 : M3 X st t) : B3 X [st] t := by
  refine ⟨fun Wx tk => ?_⟩
  obtain ⟨tea, ea, sa⟩ := h1.ex Wx tk
  exact ⟨_, pss_one ea, sa⟩
theorem m3_pass : M3 X (.Pass pos) xNext := ⟨fun _ _ => ⟨_, ps_pass, fun G Z H r s D D3 st ht im => im.nx Z H r s (Gr.refl _ _) st ht⟩⟩
def xBreak : TS3 := fun D r => D.bk r
def xCont : TS3 := fun D r => D.ct r
theorem m3_break : M3 X (.Break pos) xBreak := ⟨fun _ _ => ⟨_, ps_break, fun G Z H r s D D3 st ht im => im.bk Z H r s (Gr.refl _ _) st ht⟩⟩
theorem m3_continue : M3 X (.Continue pos) xCont := ⟨fun _ _ => ⟨_, ps_continue, fun G Z H r s D D3 st ht im => im.ct Z H r s (Gr.refl _ _) st ht⟩⟩
theorem m3_doc {x j p p'} : M3 X (.Expr (.Constant (.str x) j p) p') xNext := ⟨fun _ _ => ⟨_, ps_doc, fun G Z H r s D D3 st ht im => im.nx Z H r s (Gr.refl _ _) st ht⟩⟩
def xNever : TS3 := fun _ _ => False
theorem m3_never : M3 X st xNever := ⟨fun _ _ => ⟨_, ps_never, fun G Z H r s D D3 st ht im => ht.elim⟩⟩
theorem b3_never {sts : List Stmt} : B3 X sts xNever := ⟨fun _ _ => ⟨_, pss_never, fun G Z H r s D D3 st ht im => ht.elim⟩⟩
/-- an expression whose value is dropped -/
def xDrop (te : TE3) : TS3 := fun D r => te r fun _ r' => D.nx r'
theorem m3_expr (h : P3 X e te) (hs : swapsWith e none pos.line X.env = pure false := by rfl) : M3 X (.Expr e pos) (xDrop te) := by
  refine ⟨fun Wx tk => ?_⟩
  obtain ⟨tea, ea, sa⟩ := h.ex
  exact ⟨_, ps_expr ea hs, fun G Z H r s D D3 st ht im => sa G Z H [] [] r s _ _ st ht fun Z' H' x v r' g st' q => im.nx Z' H' r' s g st'.pop q⟩
def xRet (te : TE3) : TS3 := fun D r => te r D.rt
theorem m3_ret (h : P3 X e te) : M3 X (.Return (some e) pos) (xRet te) := by
  refine ⟨fun Wx tk => ?_⟩
  obtain ⟨tea, ea, sa⟩ := h.ex
  exact ⟨_, ps_ret ea, fun G Z H r s D D3 st ht im => sa G Z H [] [] r s _ _ st ht fun Z' H' x v r' g st' q => im.rt Z' H' r' s x v g st' q⟩
def xRetN : TS3 := fun D r => D.rt (.d .none) r
theorem m3_retN : M3 X (.Return none pos) xRetN := ⟨fun _ _ => ⟨_, ps_retN, fun G Z H r s D D3 st ht im => im.rt Z H r s _ _ (Gr.refl _ _) (st.pushD .non) ht⟩⟩
def xIfS (c : TT3) (t u : TS3) : TS3 := fun D r => c r fun b r' => (b = true → t D r') ∧ (b = false → u D r')
theorem m3_if {c : Expr} {a b : List Stmt} (hc : T3 X c tt) (ha : B3 X a t) (hb : B3 X b u) : M3 X (.If c a b pos) (xIfS tt t u) := by
  refine ⟨fun Wx tk => ?_⟩
  obtain ⟨tec, ec, sc⟩ := hc.ex
  obtain ⟨tea, ea, sa⟩ := ha.ex Wx tk
  obtain ⟨teb, eb, sb⟩ := hb.ex Wx tk
  refine ⟨_, ps_if ec ea eb, fun G Z H r s D D3 st ht im => sc G Z H [] [] r s _ _ st ht fun Z' H' d r' g st' q => ?_⟩
  cases d with
  | true => exact sa G Z' H' r' s D D3 st' (q.1 rfl) (im.mono g)
  | false => exact sb G Z' H' r' s D D3 st' (q.2 rfl) (im.mono g)
/-- a slot's own list frozen, ahead of a block -/
def xFzS (i : Nat) (t : TS3) : TS3 := fun D r => match r[i]? with | some (some x) => nv x = true ∧ t D (r.set i (some (.d (fz x)))) | _ => False
theorem S3.fzSlot {K : PySem.W.Frag} {G Z H : Hp} {ks : List T} {vs : List V} {r : Rho} {s : L2.St} {i : Nat} {x : T} (h : S3 K G Z H ks vs r s) (e : r[i]? = some (some x)) (n : nv x = true) : ∃ Z', Gr G Z Z' ∧ S3 K G Z' H ks vs (r.set i (some (.d (fz x)))) s := by
  obtain ⟨v, ev, st1⟩ := h.take e
  obtain ⟨Z', g, st2⟩ := st1.freezeG n
  refine ⟨Z', g, ?_⟩
  have hi : i < r.length := (List.getElem?_eq_some_iff.mp e).1
  have st3 := st2.back (i := i) (by rw [List.length_set]; exact hi) ev
  rw [List.set_set] at st3
  exact st3
theorem b3_fz (i : Nat) {sts : List Stmt} (h : B3 X sts t) : B3 X sts (xFzS i t) := by
  refine ⟨fun Wx tk => ?_⟩
  obtain ⟨te, ea, sa⟩ := h.ex Wx tk
  refine ⟨te, ea, fun G Z H r s D D3 st ht im => ?_⟩
  unfold xFzS at ht
  split at ht
  · rename_i x e
    obtain ⟨Z', g, st'⟩ := st.fzSlot e ht.1
    exact sa G Z' H _ s D D3 st' ht.2 (im.mono g)
  · exact ht.elim
end

/-! ### targets -/
abbrev TG3 := T → Rho → (Rho → Prop) → Prop
abbrev TGs3 := List T → Rho → (Rho → Prop) → Prop
structure G3 (X : Cx) (tg : Expr) (js : List Nat) (g : TG3) : Prop where
  ex : ∃ te : TG, PG X tg te ∧ ∀ (G Z H : Hp) (ks : List T) (vs : List V) (r : Rho) (s : L2.St) (x : T) (v : V) (Q : L2.St → Hp → Prop) (Q3 : Rho → Prop), S3 X.K G Z H (x :: ks) (v :: vs) r s → g x r Q3 →
    (∀ Z' H' r' s', Gr G Z Z' → S3 X.K G Z' H' ks vs r' s' → s'.length = s.length → (∀ i, i ∉ js → s'[i]? = s[i]?) → Q3 r' → Q s' H') → te v s H Q
structure Gs3 (X : Cx) (tg : List Expr) (js : List Nat) (g : TGs3) : Prop where
  ex : ∃ te : TGs, PGs X tg te ∧ ∀ (G Z H : Hp) (ks : List T) (vs : List V) (r : Rho) (s : L2.St) (xs : List T) (us : List V) (Q : L2.St → Hp → Prop) (Q3 : Rho → Prop), xs.length = us.length → S3 X.K G Z H (xs ++ ks) (us ++ vs) r s → g xs r Q3 →
    (∀ Z' H' r' s', Gr G Z Z' → S3 X.K G Z' H' ks vs r' s' → s'.length = s.length → (∀ i, i ∉ js → s'[i]? = s[i]?) → Q3 r' → Q s' H') → te us s H Q
section
variable {K : PySem.W.Frag} {G Z H : Hp} {ks : List T} {vs : List V} {r : Rho} {s : L2.St} {t : T} {v : V} {i : Nat}
theorem S3.store (h : S3 K G Z H (t :: ks) (v :: vs) r s) : S3 K G Z H ks vs (r.set i (some t)) (s.set i (some v)) := by
  by_cases hi : i < r.length
  · exact h.put hi
  · have h2 := h.len
    rw [List.set_eq_of_length_le (by omega), List.set_eq_of_length_le (by omega)]
    exact h.pop
end
section
variable {X : Cx} {e o a b c : Expr} {es : List Expr} {g : TG3} {gs : TGs3} {js ls : List Nat} {t ta ti : TE3} {pos : Pos}
def xGName (i : Nat) : TG3 := fun x r Q => Q (r.set i (some x))
theorem g3_name (i : Nat) {x : Str} (hN : X.N.Nodup) (hi : X.N[i]? = some x := by rfl) (hx : Loc X.env.scope x := by first | exact Or.inl rfl | exact Or.inr rfl) (hf : X.fn x = true ∨ X.env.scope.names.lookup x = some .local := by first | exact .inl rfl | exact .inr rfl | assumption) : G3 X (.Name x pos) [i] (xGName i) := by
  refine ⟨_, pg_name hN hi hx hf, fun G Z H ks vs r s x v Q Q3 st hg k => k Z H _ _ (Gr.refl _ _) st.store (by rw [List.length_set]) (fun j hj => ?_) hg⟩
  rw [List.getElem?_set_ne]
  intro q
  exact hj (by rw [q]; exact List.mem_singleton.mpr rfl)
def xGNil : TGs3 := fun xs r Q => match xs with | [] => Q r | _ => False
def xGCons (g : TG3) (gs : TGs3) : TGs3 := fun xs r Q => match xs with | x :: rest => g x r fun r' => gs rest r' Q | [] => False
theorem gs3_nil : Gs3 X [] [] xGNil := by
  refine ⟨_, pgs_nil, fun G Z H ks vs r s xs us Q Q3 hl st hg k => ?_⟩
  cases xs with
  | nil =>
    cases us with
    | nil => exact ⟨rfl, k Z H r s (Gr.refl _ _) st rfl (fun _ _ => rfl) hg⟩
    | cons _ _ => simp at hl
  | cons _ _ => exact hg.elim
theorem gs3_cons (h1 : G3 X e js g) (h2 : Gs3 X es ls gs) (hs : (assignEach (e :: es) X.env).map (·.2) = assign e X.env :: (assignEach es X.env).map (·.2) := by rfl) : Gs3 X (e :: es) (js ++ ls) (xGCons g gs) := by
  obtain ⟨te, ea, sa⟩ := h1.ex
  obtain ⟨tes, eas, sas⟩ := h2.ex
  refine ⟨_, pgs_cons ea eas hs, fun G Z H ks vs r s xs us Q Q3 hl st hg k => ?_⟩
  cases xs with
  | nil => exact hg.elim
  | cons x xs =>
    cases us with
    | nil => simp at hl
    | cons u us =>
      refine ⟨u, us, rfl, sa G Z H (xs ++ ks) (us ++ vs) r s x u _ _ st hg fun Z1 H1 r1 s1 g1 st1 l1 e1 q1 => sas G Z1 H1 ks vs r1 s1 xs us _ _ (by simpa using hl) st1 q1 fun Z2 H2 r2 s2 g2 st2 l2 e2 q2 => k Z2 H2 r2 s2 (g1.trans g2) st2 (l2.trans l1) (fun i hi => ?_) q2⟩
      rw [List.mem_append] at hi
      exact (e2 i fun z => hi (.inr z)).trans (e1 i fun z => hi (.inl z))
def xGTup (n : Nat) (gs : TGs3) : TG3 := fun x r Q => match x with | .d (.tuple l) => l.length = n ∧ gs (l.map T.d) r Q | .tp l => l.length = n ∧ gs l r Q | _ => False
theorem g3_tup {kk n : Nat} (hc : X.calm = true) (h : Gs3 X es js gs) (hn : (assignEach es X.env).length = n := by rfl) (hst : (assignEach es X.env).findIdx? (·.1) = none := by rfl) : G3 X (.Tuple es kk pos) js (xGTup n gs) := by
  obtain ⟨te, ea, sa⟩ := h.ex
  refine ⟨_, pg_tup hc ea hn hst, fun G Z H ks vs r s x v Q Q3 st hg k => ?_⟩
  unfold xGTup at hg
  split at hg
  · rename_i l
    cases st.top with
    | d h =>
      cases h with
      | @tup a0 xs _ hs ha =>
        have hl : l.length = xs.length := dpa_len ha
        have st0 := st.pop
        have st4 : S3 X.K G Z H (l.map T.d ++ ks) (xs ++ vs) r s := ⟨st0.zh, st0.gh, fun a => by rw [cts_append, cts_d]; have := st0.one a; omega, fun a c => st0.ow a (by rw [cts_append, cts_d] at c; omega), rts_app (rts_of_dpa ha) st0.stk, st0.slot, st0.len⟩
        exact ⟨a0, xs, rfl, SqT.of (st.zh _ _ hs), by rw [← hl]; exact hg.1, sa G Z H ks vs r s _ xs Q Q3 (by rw [List.length_map]; exact hl) st4 hg.2 k⟩
  · rename_i l
    cases st.top with
    | @tp a0 _ xs h1 h2 =>
      have hl : l.length = xs.length := rts_len h2
      have st0 := st.pop
      have st4 : S3 X.K G Z H (l ++ ks) (xs ++ vs) r s := ⟨st.zh, st.gh, fun a => by have := st.one a; simp only [cts, ct] at this; rw [cts_append]; omega, fun a c => st.ow a (by rw [cts_append] at c; simp only [cts, ct]; omega), rts_app h2 st0.stk, st.slot, st.len⟩
      exact ⟨a0, xs, rfl, SqT.of (st.zh _ _ h1), by rw [← hl]; exact hg.1, sa G Z H ks vs r s _ xs Q Q3 hl st4 hg.2 k⟩
  · exact hg.elim
/-- a list with another item at a place -/
def setI {α : Type} (l : List α) (i : Int) (x : α) : Option (List α) := if 0 ≤ i then (if i < (l.length : Int) then some (l.set i.toNat x) else none) else if -(l.length : Int) ≤ i then some (l.set (i + l.length).toNat x) else none
theorem setI_of {α : Type} {l l' : List α} {i : Int} {x : α} (h : setI l i x = some l') : ∃ j, ixN l.length i = some j ∧ l' = l.set j x ∧ j < l.length := by
  unfold setI at h
  unfold ixN
  split at h
  · split at h
    · cases h; exact ⟨_, by rw [if_pos (by assumption), if_pos (by assumption)], rfl, by omega⟩
    · cases h
  · split at h
    · cases h; exact ⟨_, by rw [if_neg (by assumption), if_pos (by assumption)], rfl, by omega⟩
    · cases h
/-- x[i] = .., x a list of one's own -/
def xGSub (i : Nat) (ti : TE3) : TG3 := fun x r Q => match r[i]? with
  | some (some (.own _ _)) => ti r fun y r1 => asI y fun j => (match r1[i]? with
    | some (some (.own a l)) => ∃ l', setI l j x = some l' ∧ Q (r1.set i (some (.own a l')))
    | _ => False)
  | _ => False
theorem g3_sub (i : Nat) {x : Str} {p : Pos} (hb : R3 X b ti) (hN : X.N[i]? = some x := by rfl) (hv : Vis X.env.scope x := by first | exact Or.inl rfl | exact Or.inr (Or.inl rfl) | exact Or.inr (Or.inr rfl)) (hd : (x == ("__debug__" : Str)) = false := by decide)
    (hcd : (x == ("__classdict__" : Str)) = false := by decide)
    (ha : ∀ v, assign (.Subscript (.Name x p) b pos) X.env v = (do
      let ov ← holding [v] (eval (.Name x p) X.env)
      let iv ← holding [v, ov] (eval b X.env)
      standAt pos
      holding [v, ov, iv] (setItem ov iv v)
      release [v, ov, iv] []) := by intro _; rfl) : G3 X (.Subscript (.Name x p) b pos) [] (xGSub i ti) := by
  obtain ⟨tei, ei, si⟩ := hb.ex
  refine ⟨_, pg_sub (pe_var hN hv hd hcd) ei set_list ha, fun G Z H ks vs r s x v Q Q3 st hg k => ?_⟩
  unfold xGSub at hg
  split at hg
  · rename_i a0 l0 hr0
    obtain ⟨w, ew, _⟩ := st.slot i _ hr0
    refine ⟨w, ew, si G Z H (x :: ks) (v :: vs) r s _ _ st hg fun Z1 H1 y u r1 g1 st1 pv q0 => ?_⟩
    obtain ⟨j, rfl, q⟩ := asI_of q0
    clear q0
    cases pv.int
    split at q
    · rename_i a l hr
      obtain ⟨l', hl', q⟩ := q
      obtain ⟨n, en, rfl, hn⟩ := setI_of hl'
      obtain ⟨w2, ew2, st2⟩ := st1.take hr
      rw [ew] at ew2
      cases ew2
      have rt := st2.top
      cases rt with
      | @own _ _ xs e1 e2 =>
        have st3 := S3.mid' (l := [x]) (xs := [v]) rfl st2
        have hln := rts_len e2
        have rx : RT X.K Z1 H1 x v := by cases st3.stk with | cons q _ => exact q
        have st4 := st3.write (l' := l.set n x) (xs' := xs.set n v) (rts_set n e2 rx) (fun c => by have := cts_set c l n l[n] x (List.getElem?_eq_getElem hn); omega)
        have st5 := st4.back (i := i) (by rw [List.length_set]; exact (List.getElem?_eq_some_iff.mp hr).1) ew
        rw [List.set_set] at st5
        exact ⟨a, xs, j, n, rfl, rfl, e1, by rw [← hln]; exact en, k _ _ _ s g1 st5 rfl (fun _ _ => rfl) q⟩
    · exact q.elim
  · exact hg.elim
/-- x[i][j] = .., both lists of one's own -/
def xGSub2 (i : Nat) (ti tj : TE3) : TG3 := fun x r Q => match r[i]? with
  | some (some (.own a l)) => ti r fun y r1 => asI y fun m => ∃ b l2, getI l m = some (.own b l2) ∧ r1 = r ∧ tj r fun z r2 => asI z fun n => r2 = r ∧ ∃ l3, setI l2 n x = some l3 ∧ ∃ l', setI l m (.own b l3) = some l' ∧ Q (r.set i (some (.own a l')))
  | _ => False
theorem g3_sub2 (i : Nat) {x : Str} {p p2 : Pos} (ha1 : R3 X a ti) {tj : TE3} (hb : R3 X b tj) (hs : PlainIx a := by intro _ _; rfl) (hN : X.N[i]? = some x := by rfl) (hv : Vis X.env.scope x := by first | exact Or.inl rfl | exact Or.inr (Or.inl rfl) | exact Or.inr (Or.inr rfl)) (hd : (x == ("__debug__" : Str)) = false := by decide)
    (hcd : (x == ("__classdict__" : Str)) = false := by decide)
    (ha : ∀ v, assign (.Subscript (.Subscript (.Name x p) a p2) b pos) X.env v = (do
      let ov ← holding [v] (eval (.Subscript (.Name x p) a p2) X.env)
      let iv ← holding [v, ov] (eval b X.env)
      standAt pos
      holding [v, ov, iv] (setItem ov iv v)
      release [v, ov, iv] []) := by intro _; rfl) : G3 X (.Subscript (.Subscript (.Name x p) a p2) b pos) [] (xGSub2 i ti tj) := by
  obtain ⟨tei, ei, si⟩ := ha1.ex
  obtain ⟨tej, ej, sj⟩ := hb.ex
  refine ⟨_, pg_sub (pe_ix ix_seq (pe_var hN hv hd hcd) ei hs) ej set_list ha, fun G Z H ks vs r s x v Q Q3 st hg k => ?_⟩
  unfold xGSub2 at hg
  split at hg
  · rename_i a0 l0 hr0
    obtain ⟨w, ew, _⟩ := st.slot i _ hr0
    refine ⟨w, ew, si G Z H (x :: ks) (v :: vs) r s _ _ st hg fun Z1 H1 y u r1 g1 st1 pv q0 => ?_⟩
    obtain ⟨m, rfl, q⟩ := asI_of q0
    clear q0
    cases pv.int
    obtain ⟨b0, l2, hg2, rfl, q⟩ := q
    obtain ⟨w2, ew2, rt0⟩ := st1.slot i _ hr0
    rw [ew] at ew2
    cases ew2
    cases rt0 with
    | @own _ _ xs0 e1 e2 =>
      obtain ⟨vb, eb, rb⟩ := rts_at e2 hg2
      cases rb with
      | @own _ _ ys0 f1 f2 =>
        refine .inl ⟨a0, xs0, m, .ref b0, rfl, rfl, SqL.of e1, eb, sj G Z1 H1 (x :: ks) (v :: vs) r1 s _ _ st1 q fun Z2 H2 z u2 r2 g2 st2 pv2 q2 => ?_⟩
        obtain ⟨n, rfl, q3⟩ := asI_of q2
        cases pv2.int
        obtain ⟨rfl, l3, hl3, l', hl', q4⟩ := q3
        obtain ⟨n3, en3, rfl, hn3⟩ := setI_of hl3
        obtain ⟨n4, en4, rfl, hn4⟩ := setI_of hl'
        obtain ⟨j5, en5, hj5⟩ := getI_set l0 m _ hg2
        rw [en4] at en5
        cases en5
        obtain ⟨w3, ew3, st3⟩ := st2.take hr0
        rw [ew] at ew3
        cases ew3
        have st4 := S3.mid' (l := [x]) (xs := [v]) rfl st3
        have rt := st3.top
        cases rt with
        | @own _ _ xs k1 k2 =>
          obtain ⟨vb2, eb2, rb2⟩ := rts_get k2 hj5
          cases rb2 with
          | @own _ _ ys m1 m2 =>
            have rx : RT X.K Z2 H2 x v := by cases st4.stk with | cons q _ => exact q
            have hln := rts_len m2
            have st5 := st4.write2 (i := n4) (m := l2) (m' := l2.set n3 x) (ys' := ys.set n3 v) hj5 (rts_set n3 m2 rx) (fun c => by have := cts_set c l2 n3 l2[n3] x (List.getElem?_eq_getElem hn3); omega)
            have st6 := st5.back (i := i) (by rw [List.length_set]; exact (List.getElem?_eq_some_iff.mp hr0).1) ew
            rw [List.set_set] at st6
            exact ⟨b0, ys, n, n3, rfl, rfl, m1, by rw [← hln]; exact en3, k _ _ _ s (g1.trans g2) st6 rfl (fun _ _ => rfl) q4⟩
  · exact hg.elim
/-! ### assignments -/
def xAsg (t : TE3) (g : TG3) : TS3 := fun D r => t r fun x r' => g x r' D.nx
theorem m3_asg {tg : Expr} (he : P3 X e t) (hg : G3 X tg js g) (hs : swapsWithSole [tg] e pos.line X.env = pure false := by rfl) (hw : swappedStores [tg] e X.env = pure none := by rfl)
    (h1 : (assignEach [tg] X.env).map (·.2) = [assign tg X.env] := by rfl) : M3 X (.Assign [tg] e pos) (xAsg t g) := by
  refine ⟨fun Wx tk => ?_⟩
  obtain ⟨te, ee, se⟩ := he.ex
  obtain ⟨tg', eg, sg⟩ := hg.ex
  exact ⟨_, ps_asg ee eg hs hw h1, fun G Z H r s D D3 st ht im => se G Z H [] [] r s _ _ st ht fun Z1 H1 x v r1 g1 st1 q => sg G Z1 H1 [] [] r1 s x v _ _ st1 q fun Z2 H2 r2 s2 g2 st2 _ _ q2 => im.nx Z2 H2 r2 s2 (g1.trans g2) st2 q2⟩
theorem m3_set (i : Nat) {x : Str} {p' : Pos} (he : P3 X e t) (hN : X.N.Nodup) (hi : X.N[i]? = some x := by rfl) (hx : Loc X.env.scope x := by first | exact Or.inl rfl | exact Or.inr rfl) (hs : swapsWith e (some (.Name x p')) pos.line X.env = pure false := by rfl) (hf : X.fn x = true ∨ X.env.scope.names.lookup x = some .local := by first | exact .inl rfl | exact .inr rfl | assumption) :
    M3 X (.Assign [.Name x p'] e pos) (xAsg t (xGName i)) := by
  refine ⟨fun Wx tk => ?_⟩
  obtain ⟨te, ee, se⟩ := he.ex
  exact ⟨_, ps_set hN hi hx ee hs hf, fun G Z H r s D D3 st ht im => se G Z H [] [] r s _ _ st ht fun Z1 H1 x v r1 g1 st1 q => im.nx Z1 H1 _ _ g1 st1.store q⟩
/-- a, b = e1, e2 (two names) -/
def xPar (i j : Nat) (t : TA3) : TS3 := fun D r => t r fun xs r' => match xs with | [x, y] => D.nx ((r'.set i (some x)).set j (some y)) | _ => False
theorem m3_par (i j : Nat) {x y : Str} {px py pt : Pos} {kt k2 pt2} {u : TA3} (hc : X.calm = true) (ha : PA3 X [a, b] u) (hN : X.N.Nodup) (hi : X.N[i]? = some x := by rfl) (hj : X.N[j]? = some y := by rfl) (hij : i ≠ j := by decide) (hx : X.env.scope.names.lookup x = some .local := by rfl) (hy : X.env.scope.names.lookup y = some .local := by rfl)
    (hw : swappedStores [.Tuple [.Name x px, .Name y py] kt pt] (.Tuple [a, b] k2 pt2) X.env = pure (some [x, y]) := by rfl)
    (hs : swapsWithSole [.Tuple [.Name x px, .Name y py] kt pt] (.Tuple [a, b] k2 pt2) pos.line X.env = pure false := by rfl) :
    M3 X (.Assign [.Tuple [.Name x px, .Name y py] kt pt] (.Tuple [a, b] k2 pt2) pos) (xPar i j u) := by
  refine ⟨fun Wx tk => ?_⟩
  obtain ⟨te, ee, se⟩ := ha.ex
  refine ⟨_, ps_par hc hN hi hj hij hx hy ee hw hs, fun G Z H r s D D3 st ht im => se G Z H [] [] r s _ _ st ht fun Z1 H1 xs us r1 g1 hl st1 q => ?_⟩
  split at q
  · rename_i tx ty
    match us, hl with
    | [u1, u2], _ =>
      refine ⟨u1, u2, rfl, im.nx Z1 H1 _ _ g1 ?_ q⟩
      have st2 := st1.store (i := i)
      exact st2.store (i := j)
  · exact q.elim
def xPar3 (i j l : Nat) (t : TA3) : TS3 := fun D r => t r fun xs r' => match xs with | [x, y, z] => D.nx (((r'.set i (some x)).set j (some y)).set l (some z)) | _ => False
theorem m3_par3 (i j l : Nat) {x y z : Str} {px py pz pt : Pos} {kt k2 pt2} {u : TA3} (hc : X.calm = true) (ha : PA3 X [a, b, c] u) (hN : X.N.Nodup) (hi : X.N[i]? = some x := by rfl) (hj : X.N[j]? = some y := by rfl) (hl : X.N[l]? = some z := by rfl) (hij : i ≠ j := by decide) (hil : i ≠ l := by decide) (hjl : j ≠ l := by decide)
    (hx : X.env.scope.names.lookup x = some .local := by rfl) (hy : X.env.scope.names.lookup y = some .local := by rfl) (hz : X.env.scope.names.lookup z = some .local := by rfl)
    (hw : swappedStores [.Tuple [.Name x px, .Name y py, .Name z pz] kt pt] (.Tuple [a, b, c] k2 pt2) X.env = pure (some [x, y, z]) := by rfl)
    (hs : swapsWithSole [.Tuple [.Name x px, .Name y py, .Name z pz] kt pt] (.Tuple [a, b, c] k2 pt2) pos.line X.env = pure false := by rfl) :
    M3 X (.Assign [.Tuple [.Name x px, .Name y py, .Name z pz] kt pt] (.Tuple [a, b, c] k2 pt2) pos) (xPar3 i j l u) := by
  refine ⟨fun Wx tk => ?_⟩
  obtain ⟨te, ee, se⟩ := ha.ex
  refine ⟨_, ps_par3 hc hN hi hj hl hij hil hjl hx hy hz ee hw hs, fun G Z H r s D D3 st ht im => se G Z H [] [] r s _ _ st ht fun Z1 H1 xs us r1 g1 hl st1 q => ?_⟩
  split at q
  · rename_i tx ty tz
    match us, hl with
    | [u1, u2, u3], _ =>
      refine ⟨u1, u2, u3, rfl, im.nx Z1 H1 _ _ g1 ?_ q⟩
      have st2 := st1.store (i := i)
      have st3 := st2.store (i := j)
      exact st3.store (i := l)
  · exact q.elim
/-- x op= e, ints -/
def xAug (C : Int → Int → Prop) (f : Int → Int → Int) (i : Nat) (t : TE3) : TS3 := fun D r => match r[i]? with
  | some (some (.d (.int m))) => t r fun y r' => asI y fun n => C m n ∧ D.nx (r'.set i (some (.d (.int (f m n)))))
  | _ => False
theorem m3_aug {op : Operator} {C : Int → Int → Prop} {f : Int → Int → Int} (i : Nat) {x : Str} {p' : Pos} (ho : OpR X (inplaceOp op) (rI C fun m n => .int (f m n))) (he : R3 X e t) (hN : X.N.Nodup) (hi : X.N[i]? = some x := by rfl) (hx : Loc X.env.scope x := by first | exact Or.inl rfl | exact Or.inr rfl) (hf : X.fn x = true ∨ X.env.scope.names.lookup x = some .local := by first | exact .inl rfl | exact .inr rfl | assumption) :
    M3 X (.AugAssign (.Name x p') op e pos) (xAug C f i t) := by
  refine ⟨fun Wx tk => ?_⟩
  obtain ⟨te, ee, se⟩ := he.ex
  refine ⟨_, ps_aug hN hi hx ee (fun pins s σ H x y v u Q I rx ry h => ho pins s σ H x y v u Q I rx ry h) hf, fun G Z H r s D D3 st ht im => ?_⟩
  unfold xAug at ht
  split at ht
  · rename_i m hr
    obtain ⟨w, ew, rt⟩ := st.slot i _ hr
    have ew2 : w = .int m := by
      cases rt with
      | d h => cases h; rfl
    subst ew2
    refine ⟨_, ew, se G Z H [] [] r s _ _ st ht fun Z1 H1 y v r1 g1 st1 pv q0 => ?_⟩
    obtain ⟨n, rfl, hC, q⟩ := asI_of q0
    exact ⟨m, n, rfl, pv.int, hC, im.nx Z1 H1 _ _ g1 (st1.pushD (.int _)).store q⟩
  · exact ht.elim
theorem iop_add3 : OpR X (inplaceOp .Add) (rI (fun _ _ => True) fun i j => .int (i + j)) := opI fun _ _ _ _ _ _ _ _ q => iadd_int q
theorem iop_sub3 : OpR X (inplaceOp .Sub) (rI (fun _ _ => True) fun i j => .int (i - j)) := opI fun _ _ _ _ _ _ _ _ q => isub_int q
theorem iop_mul3 : OpR X (inplaceOp .Mult) (rI MulOk fun i j => .int (i * j)) := opI fun _ _ _ _ _ _ _ hc q => imul_int q hc.ok
end

/-! ### while, for -/
section
variable {X : Cx} {e iter tg : Expr} {body : List Stmt} {tt : TT3} {tb : TS3} {g : TG3} {js : List Nat} {t : TE3} {pos : Pos}
def xWhile (c : TT3) (tb : TS3) : TS3 := fun D r => ∃ W : Nat → Rho → Prop, (∃ m, W m r) ∧ ∀ m r, W m r → c r fun b r1 => (b = true → tb { D with nx := fun r' => ∃ m', m' < m ∧ W m' r', ct := fun r' => ∃ m', m' < m ∧ W m' r', bk := D.nx } r1) ∧ (b = false → D.nx r1)
theorem m3_while {c : Expr} (hp : PassesOwn (model X.prog X.w) X.A X.env X.xe) (hc : T3 X c tt) (hb : B3 X body tb) : M3 X (.While c body [] pos) (xWhile tt tb) := by
  refine ⟨fun Wx tk => ?_⟩
  obtain ⟨tec, ec, sc⟩ := hc.ex
  obtain ⟨teb, eb, sb⟩ := hb.ex Wx tk
  refine ⟨_, ps_while hp ec eb, fun G Z H r s D D3 st ht im => ?_⟩
  obtain ⟨W, ⟨m0, w0⟩, turn⟩ := ht
  refine ⟨fun m s H => ∃ Z' r, Gr G Z Z' ∧ S3 X.K G Z' H [] [] r s ∧ W m r, ⟨m0, Z, r, Gr.refl _ _, st, w0⟩, ?_⟩
  rintro m s1 H1 ⟨Z1, r1, g1, st1, w1⟩
  refine sc G Z1 H1 [] [] r1 s1 _ _ st1 (turn m r1 w1) fun Z2 H2 b r2 g2 st2 q => ?_
  cases b with
  | false => exact im.nx Z2 H2 r2 s1 (g1.trans g2) st2 (q.2 rfl)
  | true =>
    rw [if_pos rfl]
    refine ⟨fun s' H' => ∃ m', m' < m ∧ ∃ Z' r, Gr G Z Z' ∧ S3 X.K G Z' H' [] [] r s' ∧ W m' r, fun s' H' h => h, ?_⟩
    refine sb G Z2 H2 r2 s1 _ _ st2 (q.1 rfl) ⟨fun Z3 H3 r3 s3 g3 st3 q3 => ?_, fun Z3 H3 r3 s3 x v g3 st3 q3 => im.rt Z3 H3 r3 s3 x v ((g1.trans g2).trans g3) st3 q3, fun Z3 H3 r3 s3 g3 st3 q3 => im.nx Z3 H3 r3 s3 ((g1.trans g2).trans g3) st3 q3, fun Z3 H3 r3 s3 g3 st3 q3 => ?_, fun Z3 H3 C r3 s3 g3 st3 q3 => im.ex Z3 H3 C r3 s3 ((g1.trans g2).trans g3) st3 q3⟩
    · obtain ⟨m', hm, w'⟩ := q3
      exact ⟨m', hm, Z3, r3, (g1.trans g2).trans g3, st3, w'⟩
    · obtain ⟨m', hm, w'⟩ := q3
      exact ⟨m', hm, Z3, r3, (g1.trans g2).trans g3, st3, w'⟩
/-- what an iterator yields -/
def Yld (K : PySem.W.Frag) (Z H : Hp) (x : PyData) (v : V) (H' : Hp) : Prop := (H' = H ∧ Dq K Z v x) ∨ ∃ p o, H p = none ∧ H' = upd H p o ∧ Dq K (upd Z p o) v x
def Walks (K : PySem.W.Frag) (Z : Hp) (J : It) (items : List PyData) : Prop := ∀ Z' H i, Sub Z Z' → Sub Z' H →
  (∀ x, items[i]? = some x → J.go i H ∧ ∀ v H', J.yld i H v H' → Yld K Z' H x v H') ∧ (items.length ≤ i → J.stop i H)
abbrev TI3 := Rho → (List PyData → Rho → Prop) → Prop
structure I3 (X : Cx) (tg iter : Expr) (w : TI3) : Prop where
  ex : ∃ wi : TI, PI X tg iter wi ∧ ∀ (G Z H : Hp) (ks : List T) (vs : List V) (r : Rho) (s : L2.St) (R : It → Hp → Prop) (Q3 : List PyData → Rho → Prop), S3 X.K G Z H ks vs r s → w r Q3 →
    (∀ Z' H' J items r', Gr G Z Z' → S3 X.K G Z' H' ks vs r' s → Walks X.K Z' J items → Q3 items r' → R J H') → wi s H R
def xFor (w : TI3) (g : TG3) (tb : TS3) : TS3 := fun D r => w r fun items r1 => ∃ W : Nat → Rho → Prop, W 0 r1 ∧ (∀ i x r, items[i]? = some x → W i r → g (.d x) r fun r2 => tb { D with nx := W (i + 1), ct := W (i + 1), bk := D.nx } r2) ∧ ∀ r, W items.length r → D.nx r
theorem Yld.st {K : PySem.W.Frag} {G Z H H' : Hp} {ks : List T} {vs : List V} {r : Rho} {s : L2.St} {x : PyData} {v : V} (y : Yld K Z H x v H') (st : S3 K G Z H ks vs r s) : ∃ Z', Gr G Z Z' ∧ S3 K G Z' H' (.d x :: ks) (v :: vs) r s := by
  rcases y with ⟨rfl, d⟩ | ⟨p, o, hp, rfl, d⟩
  · exact ⟨Z, Gr.refl _ _, st.pushD d⟩
  · obtain ⟨g, st2⟩ := st.laidG (o := o) hp
    exact ⟨_, g, st2.pushD d⟩
theorem m3_for {w : TI3} (hp : PassesOwn (model X.prog X.w) X.A X.env X.xe) (hc : X.calm = true) (hi : I3 X tg iter w) (hg : G3 X tg js g) (hb : B3 X body tb) (hs : ∀ x, foldedSetIterable iter X.env x = pure x := by intro _; rfl) : M3 X (.For tg iter body [] pos) (xFor w g tb) := by
  refine ⟨fun Wx tk => ?_⟩
  obtain ⟨wi, ei, si⟩ := hi.ex
  obtain ⟨tg', eg, sg⟩ := hg.ex
  obtain ⟨teb, eb, sb⟩ := hb.ex Wx tk
  refine ⟨_, ps_for hp hc ei eg eb hs, fun G Z H r s D D3 st ht im => si G Z H [] [] r s _ _ st ht fun Z0 H0 J items r0 g0 st0 wk q => ?_⟩
  obtain ⟨W, w0, turn, done⟩ := q
  refine ⟨fun i m s H => m = items.length - i ∧ i ≤ items.length ∧ ∃ Z' r, Gr G Z0 Z' ∧ S3 X.K G Z' H [] [] r s ∧ W i r, ⟨_, rfl, Nat.zero_le _, Z0, r0, Gr.refl _ _, st0, w0⟩, ?_⟩
  rintro i m s1 H1 ⟨rfl, hi, Z1, r1, g1, st1, w1⟩
  by_cases hlt : i < items.length
  · obtain ⟨go, y⟩ := (wk Z1 H1 i g1.sub st1.zh).1 items[i] (List.getElem?_eq_getElem hlt)
    refine .inr ⟨go, fun s' H' => ∃ Z' r, Gr G Z0 Z' ∧ S3 X.K G Z' H' [] [] r s' ∧ W (i + 1) r, fun s' H' h => ⟨items.length - (i + 1), by omega, rfl, hlt, h⟩, fun x H' yx => ?_⟩
    obtain ⟨Z2, g2, st2⟩ := (y x H' yx).st st1
    refine sg G Z2 H' [] [] r1 s1 _ x _ _ st2 (turn i _ r1 (List.getElem?_eq_getElem hlt) w1) fun Z3 H3 r3 s3 g3 st3 _ _ q3 => ?_
    have gg := (g1.trans g2).trans g3
    exact sb G Z3 H3 r3 s3 _ _ st3 q3 ⟨fun Z4 H4 r4 s4 g4 st4 q4 => ⟨Z4, r4, gg.trans g4, st4, q4⟩, fun Z4 H4 r4 s4 x v g4 st4 q4 => im.rt Z4 H4 r4 s4 x v (g0.trans (gg.trans g4)) st4 q4,
      fun Z4 H4 r4 s4 g4 st4 q4 => im.nx Z4 H4 r4 s4 (g0.trans (gg.trans g4)) st4 q4, fun Z4 H4 r4 s4 g4 st4 q4 => ⟨Z4, r4, gg.trans g4, st4, q4⟩, fun Z4 H4 C r4 s4 g4 st4 q4 => im.ex Z4 H4 C r4 s4 (g0.trans (gg.trans g4)) st4 q4⟩
  · have e : i = items.length := by omega
    subst e
    exact .inl ⟨(wk Z1 H1 _ g1.sub st1.zh).2 (Nat.le_refl _), im.nx Z1 H1 r1 s1 (g0.trans g1) st1 (done r1 w1)⟩
/-! what is walked -/
theorem walks_list {K : PySem.W.Frag} {Z : Hp} {a : Addr} {xs : List V} {l : List PyData} (hs : SqL K Z a xs) (hd : DqAll K Z xs l) (inj : ∀ H ys, Sub Z H → SqL K H a ys → ys = xs) : Walks K Z (Itl K a) l := fun Z' H i z zh => by
  have hs2 : SqL K H a xs := zh.L (z.L hs)
  refine ⟨fun x hx => ?_, fun hi => ⟨xs, hs2, by rw [← dpa_len hd]; exact hi⟩⟩
  obtain ⟨v, ev, dv⟩ := dpa_get hd hx
  refine ⟨⟨xs, v, hs2, ev⟩, fun u H' y => .inl ⟨y.1, ?_⟩⟩
  have := y.2 xs hs2
  rw [ev] at this
  cases this
  exact dp_mono z x v dv
end
end L3
namespace L3
open PySem PySem.Spec PyProof.Rows L2

/-! ### the weakest reading -/
def lowP (K : PySem.W.Frag) (t : TE3) : TE := fun s H Q => ∃ (G Z : Hp) (ks : List T) (vs : List V) (r : Rho) (Q3 : T → Rho → Prop), S3 K G Z H ks vs r s ∧ t r Q3 ∧ ∀ Z' H' x v r', Gr G Z Z' → S3 K G Z' H' (x :: ks) (v :: vs) r' s → Q3 x r' → Q v H'
def lowT (K : PySem.W.Frag) (t : TT3) : TT := fun s H Q => ∃ (G Z : Hp) (ks : List T) (vs : List V) (r : Rho) (Q3 : Bool → Rho → Prop), S3 K G Z H ks vs r s ∧ t r Q3 ∧ ∀ Z' H' b r', Gr G Z Z' → S3 K G Z' H' ks vs r' s → Q3 b r' → Q b H'
def lowG (K : PySem.W.Frag) (js : List Nat) (g : TG3) : TG := fun v s H Q => ∃ (G Z : Hp) (ks : List T) (vs : List V) (r : Rho) (x : T) (Q3 : Rho → Prop), S3 K G Z H (x :: ks) (v :: vs) r s ∧ g x r Q3 ∧
  ∀ Z' H' r' s', Gr G Z Z' → S3 K G Z' H' ks vs r' s' → s'.length = s.length → (∀ i, i ∉ js → s'[i]? = s[i]?) → Q3 r' → Q s' H'
section
variable {X : Cx} {e : Expr} {t : TE3} {tt : TT3} {g : TG3} {js : List Nat}
theorem P3.low (h : P3 X e t) : PE X e (lowP X.K t) := by
  obtain ⟨te, he, hs⟩ := h.ex
  exact ⟨fun pins s σ H Q I ⟨G, Z, ks, vs, r, Q3, st, ht, k⟩ => he.run pins s σ H Q I (hs G Z H ks vs r σ Q Q3 st ht k)⟩
theorem T3.low (h : T3 X e tt) : PT X e (lowT X.K tt) := by
  obtain ⟨te, he, hs⟩ := h.ex
  exact ⟨fun pins s σ H Q I ⟨G, Z, ks, vs, r, Q3, st, ht, k⟩ => he.run pins s σ H Q I (hs G Z H ks vs r σ Q Q3 st ht k)⟩
theorem G3.low (h : G3 X e js g) : PG X e (lowG X.K js g) := by
  obtain ⟨te, he, hs⟩ := h.ex
  exact ⟨fun pins s σ H v u Q I rv ⟨G, Z, ks, vs, r, x, Q3, st, ht, k⟩ => he.run pins s σ H v u Q I rv (hs G Z H ks vs r σ x v Q Q3 st ht k)⟩
end
/-- the conditions of a comprehension -/
structure Ts3 (X : Cx) (ifs : List Expr) (t : TT3) : Prop where
  pt : PTs X ifs (lowT X.K t)
def xYes : TT3 := fun r Q => Q true r
theorem ts3_nil {X : Cx} : Ts3 X [] xYes := ⟨⟨fun pins s σ H Q I ⟨G, Z, ks, vs, r, Q3, st, ht, k⟩ => pts_nil.run pins s σ H Q I (k Z H true r (Gr.refl _ _) st ht)⟩⟩
theorem ts3_one {X : Cx} {c : Expr} {t : TT3} (h : T3 X c t) : Ts3 X [c] t := ⟨pts_one h.low⟩

/-! ### comprehensions -/
def wp (r : Rho) : List Nat → Rho
  | [] => r
  | j :: js => (wp r js).set j none
theorem wp_len (r : Rho) : ∀ js, (wp r js).length = r.length
  | [] => rfl
  | j :: js => by show ((wp r js).set j none).length = _; rw [List.length_set, wp_len r js]
theorem S3.wipes {K : PySem.W.Frag} {G Z H : Hp} {ks : List T} {vs : List V} {r : Rho} {s : L2.St} (h : S3 K G Z H ks vs r s) : ∀ js, S3 K G Z H ks vs (wp r js) (L2.wipe s js)
  | [] => h
  | j :: js => (h.wipes js).wipe
theorem S3.unwipe {K : PySem.W.Frag} {G Z H : Hp} {ks : List T} {vs : List V} {r : Rho} {s : L2.St} {js : List Nat} (h : S3 K G Z H ks vs r (L2.wipe s js)) : S3 K G Z H ks vs r s :=
  ⟨h.zh, h.gh, h.one, h.ow, h.stk, fun i t e => by
    obtain ⟨v, ev, q⟩ := h.slot i t e
    exact ⟨v, (wipe_some ev).1, q⟩, h.len.trans (wipe_length s js)⟩
theorem wipe_same {s s' : L2.St} : ∀ {js : List Nat}, s'.length = s.length → (∀ i, i ∉ js → s'[i]? = s[i]?) → L2.wipe s' js = L2.wipe s js := by
  intro js hl h
  refine List.ext_getElem? fun i => ?_
  by_cases hi : i ∈ js
  · have z : ∀ (s : L2.St) (js : List Nat), i ∈ js → (L2.wipe s js)[i]? = if i < s.length then some none else none := by
      intro s js
      induction js with
      | nil => intro h; simp at h
      | cons j js ih =>
        intro h
        show ((L2.wipe s js).set j none)[i]? = _
        by_cases e : j = i
        · subst e
          by_cases hl : j < s.length
          · rw [List.getElem?_set_self (by rw [wipe_length]; exact hl), if_pos hl]
          · rw [List.getElem?_eq_none (by rw [List.length_set, wipe_length]; omega), if_neg hl]
        · rw [List.getElem?_set_ne e]
          rcases List.mem_cons.mp h with q | q
          · exact absurd q.symm e
          · exact ih q
    rw [z s' js hi, z s js hi, hl]
  · rw [wipe_out hi, wipe_out hi]
    exact h i hi
def xLc (w : TI3) (g : TG3) (tt : TT3) (te : TE3) (js : List Nat) : TE3 := fun r Q => w r fun items r1 => ∀ p, ∃ W : Nat → List T → Rho → Prop, W 0 [] (wp r1 js) ∧
  (∀ i x acc r, items[i]? = some x → W i acc r → g (.d x) r fun r2 => tt r2 fun b r3 => (b = true → te r3 fun y r4 => acc.length < sizeLine ∧ W (i + 1) (acc ++ [y]) (wp r4 js)) ∧ (b = false → W (i + 1) acc (wp r3 js))) ∧
  ∀ acc r, W items.length acc r → Q (.own p acc) r
section
variable {X : Cx} {elt tg iter : Expr} {ifs : List Expr} {scope : Scope} {own : List (Str × Nat)} {pos : Pos} {w : TI3} {g : TG3} {tt : TT3} {te : TE3} {js : List Nat}
theorem lc_run {wi : TI} (si : ∀ (G Z H : Hp) (ks : List T) (vs : List V) (r : Rho) (s : L2.St) (R : It → Hp → Prop) (Q3 : List PyData → Rho → Prop), S3 X.K G Z H ks vs r s → w r Q3 →
    (∀ Z' H' J items r', Gr G Z Z' → S3 X.K G Z' H' ks vs r' s → Walks X.K Z' J items → Q3 items r' → R J H') → wi s H R) (hj : ∀ j ∈ js, j ∈ own.map (·.2)) {G Z H : Hp} {ks : List T} {vs : List V} {r : Rho} {s : L2.St} {Q : VK} {Q3 : T → Rho → Prop} (st : S3 X.K G Z H ks vs r s) (ht : xLc w g tt te (own.map (·.2)) r Q3)
    (k : ∀ Z' H' x v r', Gr G Z Z' → S3 X.K G Z' H' (x :: ks) (v :: vs) r' s → Q3 x r' → Q v H') : tLc wi (lowG X.K js g) (lowT X.K tt) (lowP X.K te) (own.map (·.2)) s H Q := by
  refine si G Z H ks vs r s _ _ st ht fun Z0 H0 J items r0 g0 st0 wk q D hD => ?_
  obtain ⟨W, w0, turn, done⟩ := q D
  have stw : S3 X.K G Z0 H0 ks vs (wp r0 (own.map (·.2))) (L2.wipe s (own.map (·.2))) := st0.wipes _
  have st1 : S3 X.K G Z0 (upd H0 D (.lst [])) (.own D [] :: ks) (.ref D :: vs) (wp r0 (own.map (·.2))) (L2.wipe s (own.map (·.2))) := S3.mkOwn (l := []) (xs := []) stw rfl hD
  refine ⟨fun i m H => m = items.length - i ∧ i ≤ items.length ∧ ∃ Z' r acc, Gr G Z0 Z' ∧ S3 X.K G Z' H (.own D acc :: ks) (.ref D :: vs) r (L2.wipe s (own.map (·.2))) ∧ W i acc r, ⟨_, rfl, Nat.zero_le _, Z0, _, [], Gr.refl _ _, st1, w0⟩, ?_⟩
  rintro i m H1 ⟨rfl, hi, Z1, r1, acc, g1, st1, w1⟩
  by_cases hlt : i < items.length
  · obtain ⟨go, y⟩ := (wk Z1 H1 i g1.sub st1.zh).1 items[i] (List.getElem?_eq_getElem hlt)
    refine .inr ⟨go, fun H' => ∃ Z' r acc, Gr G Z0 Z' ∧ S3 X.K G Z' H' (.own D acc :: ks) (.ref D :: vs) r (L2.wipe s (own.map (·.2))) ∧ W (i + 1) acc r, fun H' h => ⟨items.length - (i + 1), by omega, rfl, hlt, h⟩, fun x H' yx => ?_⟩
    obtain ⟨Z2, g2, st2⟩ := (y x H' yx).st st1
    refine ⟨G, Z2, _, _, r1, _, _, st2, turn i _ acc r1 (List.getElem?_eq_getElem hlt) w1, fun Z3 H3 r3 s3 g3 st3 l3 e3 q3 => ?_⟩
    have ew : wipe s3 (own.map (·.2)) = wipe s (own.map (·.2)) := by
      have : wipe s3 (own.map (·.2)) = wipe (L2.wipe s (own.map (·.2))) (own.map (·.2)) := wipe_same l3 fun i hi => e3 i fun z => hi (hj i z)
      rw [this]
      exact wipe_same (wipe_length _ _) fun i hi => wipe_out hi
    have gg := (g1.trans g2).trans g3
    refine ⟨ew, G, Z3, _, _, r3, _, st3, q3, fun Z4 H4 b r4 g4 st4 q4 => ?_⟩
    cases b with
    | false =>
      have q5 : W (i + 1) acc (wp r4 (own.map (·.2))) := q4.2 rfl
      have st5 := st4.wipes (own.map (·.2))
      rw [ew] at st5
      exact ⟨Z4, _, acc, gg.trans g4, st5, q5⟩
    | true =>
      refine ⟨G, Z4, _, _, r4, _, st4, q4.1 rfl, fun Z5 H5 y v r5 g5 st5 q5 => ?_⟩
      obtain ⟨xs, e1, e2, e3', e4, _⟩ := st5.ownAt
      have st6 := st5.write (l' := acc ++ [y]) (xs' := xs ++ [v]) (rts_snoc e2 e3') (fun b => by rw [cts_append]; simp only [cts]; omega)
      have st7 := st6.wipes (own.map (·.2))
      rw [ew] at st7
      exact ⟨xs, e1, by rw [← rts_len e2]; exact q5.1, Z5, _, _, (gg.trans g4).trans g5, st7, q5.2⟩
  · have e : i = items.length := by omega
    subst e
    exact .inl ⟨(wk Z1 H1 _ g1.sub st1.zh).2 (Nat.le_refl _), k Z1 H1 _ _ r1 (g0.trans g1) st1.unwipe (done acc r1 w1)⟩
theorem p3_lc (hc : X.calm = true) (hN : X.N.Nodup) (hi : I3 X tg iter w) (ok : BlkOk X.N X.env.scope scope own) (hj : ∀ j ∈ js, j ∈ own.map (·.2))
    (hg : ∀ (s : Shared) (H : Hp) (C : Addr) (cl : List (Str × Addr)) (fp : List Addr), G3 (X.blk s H scope (compEnvC scope cl C X.env) fp) tg js g) (ht : ∀ (s : Shared) (H : Hp) (C : Addr) (cl : List (Str × Addr)) (fp : List Addr), Ts3 (X.blk s H scope (compEnvC scope cl C X.env) fp) ifs tt)
    (he : ∀ (s : Shared) (H : Hp) (C : Addr) (cl : List (Str × Addr)) (fp : List Addr), P3 (X.blk s H scope (compEnvC scope cl C X.env) fp) elt te) (hs : ∀ x, foldedSetIterable iter X.env x = pure x := by intro _; rfl) :
    P3 X (.ListComp elt [⟨tg, iter, ifs, 0⟩] scope pos) (xLc w g tt te (own.map (·.2))) := by
  obtain ⟨wi, ei, si⟩ := hi.ex
  exact ⟨_, pe_lc hc hN ei ok (fun s H C cl fp => (hg s H C cl fp).low) (fun s H C cl fp => (ht s H C cl fp).pt) (fun s H C cl fp => (he s H C cl fp).low) hs, fun G Z H ks vs r s Q Q3 st h k => lc_run si hj st h k⟩
/-- name = [..] on one line, the name a local -/
theorem m3_setLc (i : Nat) {y : Str} {py spos : Pos} (hc : X.calm = true) (hN : X.N.Nodup) (hi : I3 X tg iter w) (ok : BlkOk X.N X.env.scope scope own) (hj : ∀ j ∈ js, j ∈ own.map (·.2))
    (hg : ∀ (s : Shared) (H : Hp) (C : Addr) (cl : List (Str × Addr)) (fp : List Addr), G3 (X.blk s H scope (compEnvC scope cl C X.env) fp) tg js g) (ht : ∀ (s : Shared) (H : Hp) (C : Addr) (cl : List (Str × Addr)) (fp : List Addr), Ts3 (X.blk s H scope (compEnvC scope cl C X.env) fp) ifs tt)
    (he : ∀ (s : Shared) (H : Hp) (C : Addr) (cl : List (Str × Addr)) (fp : List Addr), P3 (X.blk s H scope (compEnvC scope cl C X.env) fp) elt te) (hy : X.N[i]? = some y := by rfl) (hyl : X.env.scope.names.lookup y = some .local := by rfl)
    (hsw : swapsWith (.ListComp elt [⟨tg, iter, ifs, 0⟩] scope pos) (some (.Name y py)) spos.line X.env = pure true := by exact sw_true rfl rfl rfl (by decide +kernel)) (hs : ∀ x, foldedSetIterable iter X.env x = pure x := by intro _; rfl) :
    M3 X (.Assign [.Name y py] (.ListComp elt [⟨tg, iter, ifs, 0⟩] scope pos) spos) (xAsg (xLc w g tt te (own.map (·.2))) (xGName i)) := by
  refine ⟨fun W tk => ?_⟩
  obtain ⟨wi, ei, si⟩ := hi.ex
  exact ⟨_, ps_setLc hc hN hy hyl hsw ei ok (fun s H C cl fp => (hg s H C cl fp).low) (fun s H C cl fp => (ht s H C cl fp).pt) (fun s H C cl fp => (he s H C cl fp).low) hs, fun G Z H r s D D3 st h im =>
    lc_run si hj st h fun Z1 H1 x v r1 g1 st1 q => im.nx Z1 H1 _ _ g1 st1.store q⟩
end

/-! ### what is walked -/
theorem walks_L {K : PySem.W.Frag} {Z : Hp} {a : Addr} {xs : List V} {l : List PyData} (hs : SqL K Z a xs) (hd : DqAll K Z xs l) : Walks K Z (Itl K a) l := fun Z' H i z zh => by
  have hs2 : SqL K H a xs := zh.L (z.L hs)
  refine ⟨fun x hx => ?_, fun hi => ⟨xs, hs2, by rw [← dpa_len hd]; exact hi⟩⟩
  obtain ⟨v, ev, dv⟩ := dpa_get hd hx
  refine ⟨⟨xs, v, hs2, ev⟩, fun u H' y => .inl ⟨y.1, ?_⟩⟩
  have := y.2 xs hs2
  rw [ev] at this
  cases this
  exact dp_mono z x v dv
theorem walks_T {K : PySem.W.Frag} {Z : Hp} {a : Addr} {xs : List V} {l : List PyData} (hs : SqT K Z a xs) (hd : DqAll K Z xs l) : Walks K Z (Itt K a) l := fun Z' H i z zh => by
  have hs2 : SqT K H a xs := zh.T (z.T hs)
  refine ⟨fun x hx => ?_, fun hi => ⟨xs, hs2, by rw [← dpa_len hd]; exact hi⟩⟩
  obtain ⟨v, ev, dv⟩ := dpa_get hd hx
  refine ⟨⟨xs, v, hs2, ev⟩, fun u H' y => .inl ⟨y.1, ?_⟩⟩
  have := y.2 xs hs2
  rw [ev] at this
  cases this
  exact dp_mono z x v dv
/-- lo, lo + 1, .., n of them -/
def rangeI (lo : Int) (n : Nat) : List PyData := (List.range n).map fun i => PyData.int (lo + (i : Nat))
theorem rangeI_len (lo : Int) (n : Nat) : (rangeI lo n).length = n := by unfold rangeI; rw [List.length_map, List.length_range]
theorem rangeI_get {lo : Int} {n i : Nat} {x : PyData} (h : (rangeI lo n)[i]? = some x) : i < n ∧ x = .int (lo + (i : Nat)) := by
  unfold rangeI at h
  rw [List.getElem?_map] at h
  by_cases hi : i < n
  · rw [List.getElem?_range hi] at h
    exact ⟨hi, (Option.some.inj h).symm⟩
  · rw [List.getElem?_eq_none (by rw [List.length_range]; omega)] at h
    cases h
theorem walks_R {K : PySem.W.Frag} {Z : Hp} {lo : Int} {n : Nat} : Walks K Z (Itr lo n) (rangeI lo n) := fun Z' H i z zh => by
  refine ⟨fun x hx => ?_, fun hi => by rw [rangeI_len] at hi; exact hi⟩
  obtain ⟨h1, rfl⟩ := rangeI_get hx
  exact ⟨h1, fun v H' y => .inl ⟨y.1, by rw [y.2]; exact .int _⟩⟩
def rangeD (hi : Int) (n : Nat) : List PyData := (List.range n).map fun i => PyData.int (hi - (i : Nat))
theorem rangeD_len (lo : Int) (n : Nat) : (rangeD lo n).length = n := by unfold rangeD; rw [List.length_map, List.length_range]
theorem rangeD_get {lo : Int} {n i : Nat} {x : PyData} (h : (rangeD lo n)[i]? = some x) : i < n ∧ x = .int (lo - (i : Nat)) := by
  unfold rangeD at h
  rw [List.getElem?_map] at h
  by_cases hi : i < n
  · rw [List.getElem?_range hi] at h
    exact ⟨hi, (Option.some.inj h).symm⟩
  · rw [List.getElem?_eq_none (by rw [List.length_range]; omega)] at h
    cases h
theorem walks_D {K : PySem.W.Frag} {Z : Hp} {lo : Int} {n : Nat} : Walks K Z (Itc lo (-1) n) (rangeD lo n) := fun Z' H i z zh => by
  refine ⟨fun x hx => ?_, fun hi => by rw [rangeD_len] at hi; exact hi⟩
  obtain ⟨h1, rfl⟩ := rangeD_get hx
  refine ⟨h1, fun v H' y => .inl ⟨y.1, ?_⟩⟩
  rw [y.2, show lo + (i : Int) * -1 = lo - (i : Int) by omega]
  exact .int _
theorem walks_S {K : PySem.W.Frag} {Z : Hp} {x : Str} : Walks K Z (Its x) (x.cps.toList.map fun c => PyData.str ⟨#[c]⟩) := fun Z' H i z zh => by
  refine ⟨fun y hy => ?_, fun hi => by rw [List.length_map, Array.length_toList] at hi; exact hi⟩
  rw [List.getElem?_map] at hy
  cases hc : x.cps.toList[i]? with
  | none => rw [hc] at hy; cases hy
  | some c =>
    rw [hc] at hy
    cases hy
    refine ⟨?_, fun v H' ⟨e, c', h1, h2⟩ => .inl ⟨e, ?_⟩⟩
    · have := (List.getElem?_eq_some_iff.mp hc).1
      show i < x.cps.size
      simpa using this
    · have : x.cps[i]? = some c := by rw [← Array.getElem?_toList]; exact hc
      rw [this] at h1
      cases h1
      rw [h2]
      exact .str _
section
variable {X : Cx} {e a b c : Expr} {tg : Expr} {t ta tb tc : TE3} {pos p : Pos}
/-- over a list or a tuple -/
def iSeq (K : PySem.W.Frag) (tl : TE) : TI := fun σ H R => tl σ H fun x H1 => ∃ a, x = .ref a ∧ (((∃ xs, SqL K H1 a xs) ∧ R (Itl K a) H1) ∨ ((∃ xs, SqT K H1 a xs) ∧ R (Itt K a) H1))
theorem pi_seq {l : Expr} {tl : TE} (hl : PE X l tl) : PI X tg l (iSeq X.K tl) := by
  refine ⟨fun pins s σ H R I h => ?_⟩
  refine thn (hl.run pins s σ H _ I h) fun v s1 ⟨x, H1, I1, r1, q1⟩ => ?_
  obtain ⟨a, e, ⟨⟨xs, hq⟩, q⟩ | ⟨⟨xs, hq⟩, q⟩⟩ := q1
  · subst e
    cases r1
    obtain ⟨its, rv, p, hz⟩ := I1.list hq
    refine wpAny_pyIter_list p.isList ?_
    refine ⟨s1.heap.objs.size, [s1.heap.objs.size], _, _, H1, rfl, I1.kept (t' := s1.toks) fun b o e => Heap.get?_push_of_some _ e, turn_list a _, ⟨_, Heap.get?_push_size _ rfl, rfl, rfl⟩, fun b hb => ?_, q⟩
    have e : b = s1.heap.objs.size := by simpa using hb
    subst e
    exact I1.fpOk (Nat.le_refl _) (I1.hok.fresh (Nat.le_refl _))
  · subst e
    cases r1
    obtain ⟨its, rv, p, hz⟩ := I1.tuple hq
    refine wpAny_pyIter_tuple (show s1.heap.IsTuple a its.toArray from p) ?_
    refine ⟨s1.heap.objs.size, [s1.heap.objs.size], _, _, H1, rfl, I1.kept (t' := s1.toks) fun b o e => Heap.get?_push_of_some _ e, turn_tuple a _, ⟨_, Heap.get?_push_size _ rfl, rfl, rfl⟩, fun b hb => ?_, q⟩
    have e : b = s1.heap.objs.size := by simpa using hb
    subst e
    exact I1.fpOk (Nat.le_refl _) (I1.hok.fresh (Nat.le_refl _))
def xSeqI (t : TE3) : TI3 := fun r R => t r fun x r' => match x with | .d (.list l) => R l r' | .d (.tuple l) => R l r' | .sc _ ns => R (ns.map PyData.int) r' | _ => False
theorem i3_seq (h : R3 X e t) : I3 X tg e (xSeqI t) := by
  obtain ⟨te, ee, se⟩ := h.ex
  refine ⟨_, pi_seq ee, fun G Z H ks vs r s R Q3 st ht k => se G Z H ks vs r s _ _ st ht fun Z1 H1 x v r1 g1 st1 pv q => ?_⟩
  split at q
  · cases (show Dq X.K Z1 v (.list _) from pv) with
    | lst hs ha => exact ⟨_, rfl, .inl ⟨⟨_, SqL.of (st1.zh _ _ hs)⟩, k Z1 H1 _ _ r1 g1 st1 (walks_L (SqL.of hs) ha) q⟩⟩
  · cases (show Dq X.K Z1 v (.tuple _) from pv) with
    | tup hs ha => exact ⟨_, rfl, .inr ⟨⟨_, SqT.of (st1.zh _ _ hs)⟩, k Z1 H1 _ _ r1 g1 st1 (walks_T (SqT.of hs) ha) q⟩⟩
  · obtain ⟨rfl, hs⟩ := pv
    exact ⟨_, rfl, .inl ⟨⟨_, st1.zh.L hs⟩, k Z1 H1 _ _ r1 g1 st1 (walks_L hs (dqa_ints _)) q⟩⟩
  · exact q.elim
def xR1 (t : TE3) : TI3 := fun r R => t r fun x r' => asI x fun j => j < 2 ^ 62 ∧ -(2 ^ 62) ≤ j ∧ R (rangeI 0 j.toNat) r'
theorem i3_range1 (hg : Gl X "range") (hm : X.mg "range" = none) (ha : R3 X a ta) (hs : starEach [a] X.env = [(false, eval a X.env)] := by rfl) : I3 X tg (.Call (.Name "range" p) [a] [] pos) (xR1 ta) := by
  obtain ⟨te, ee, se⟩ := ha.ex
  refine ⟨_, pi_range1 hg hm (pa_cons ee pa_nil hs) hs, fun G Z H ks vs r s R Q3 st ht k => se G Z H ks vs r s _ _ st ht fun Z1 H1 x v r1 g1 st1 pv q => ?_⟩
  obtain ⟨j, rfl, h1, h2, q⟩ := asI_of q
  exact ⟨j, by rw [pv.int], h2, h1, k Z1 H1 _ _ r1 g1 st1 walks_R q⟩
def xR2 (ta tb : TE3) : TI3 := fun r R => ta r fun x r1 => tb r1 fun y r2 => asI x fun i => asI y fun j => (-(2 ^ 62) ≤ i ∧ i < 2 ^ 62 ∧ -(2 ^ 62) ≤ j ∧ j < 2 ^ 62) ∧ R (rangeI i (j - i).toNat) r2
theorem i3_range2 (hg : Gl X "range") (hm : X.mg "range" = none) (ha : R3 X a ta) (hb : R3 X b tb) (hs : starEach [a, b] X.env = [(false, eval a X.env), (false, eval b X.env)] := by rfl) (hs2 : starEach [b] X.env = [(false, eval b X.env)] := by rfl)
    (he : starEach [a, b] X.env = (false, eval a X.env) :: starEach [b] X.env := by rfl) : I3 X tg (.Call (.Name "range" p) [a, b] [] pos) (xR2 ta tb) := by
  obtain ⟨te, ee, se⟩ := ha.ex
  obtain ⟨tf, ef, sf⟩ := hb.ex
  refine ⟨_, pi_range2 hg hm (pa_cons ee (pa_cons ef pa_nil hs2) he) hs hs2, fun G Z H ks vs r s R Q3 st ht k => se G Z H ks vs r s _ _ st ht fun Z1 H1 x v r1 g1 st1 pv q => sf G Z1 H1 ks vs r1 s _ _ st1 q fun Z2 H2 y u r2 g2 st2 pv2 q => ?_⟩
  obtain ⟨i, rfl, q1⟩ := asI_of q
  obtain ⟨j, rfl, hb, q2⟩ := asI_of q1
  exact ⟨i, j, by rw [pv.int, pv2.int], hb, k Z2 H2 _ _ r2 (g1.trans g2) st2 walks_R q2⟩
/-- range(a, b, -1) -/
def xR3 (ta tb tc : TE3) : TI3 := fun r R => ta r fun x r1 => tb r1 fun y r2 => tc r2 fun z r3 => asI x fun i => asI y fun j => asI z fun l => l = -1 ∧ (-(2 ^ 62) ≤ i ∧ i < 2 ^ 62 ∧ -(2 ^ 62) ≤ j ∧ j < 2 ^ 62) ∧ R (rangeD i (i - j).toNat) r3
theorem i3_range3 (hg : Gl X "range") (hm : X.mg "range" = none) (ha : R3 X a ta) (hb : R3 X b tb) (hc : R3 X c tc) (hs : starEach [a, b, c] X.env = (false, eval a X.env) :: starEach [b, c] X.env := by rfl) (hs2 : starEach [b, c] X.env = (false, eval b X.env) :: starEach [c] X.env := by rfl)
    (hs3 : starEach [c] X.env = (false, eval c X.env) :: starEach [] X.env := by rfl) (hpl : (backTo pos (starEach [b, c] X.env)).any (·.1) = false := by rfl) : I3 X tg (.Call (.Name "range" p) [a, b, c] [] pos) (xR3 ta tb tc) := by
  obtain ⟨te, ee, se⟩ := ha.ex
  obtain ⟨tf, ef, sf⟩ := hb.ex
  obtain ⟨tg', eg, sg⟩ := hc.ex
  refine ⟨_, pi_range3 hg hm (pa_cons ee (pa_cons ef (pa_cons eg pa_nil hs3) hs2) hs) hs hpl, fun G Z H ks vs r s R Q3 st ht k => se G Z H ks vs r s _ _ st ht fun Z1 H1 x v r1 g1 st1 pv q => sf G Z1 H1 ks vs r1 s _ _ st1 q fun Z2 H2 y u r2 g2 st2 pv2 q => sg G Z2 H2 ks vs r2 s _ _ st2 q fun Z3 H3 z u3 r3 g3 st3 pv3 q => ?_⟩
  obtain ⟨i, rfl, q1⟩ := asI_of q
  obtain ⟨j, rfl, q2⟩ := asI_of q1
  obtain ⟨l, rfl, rfl, ⟨b1, b2, b3, b4⟩, q3⟩ := asI_of q2
  exact ⟨i, j, -1, _, by rw [pv.int, pv2.int, pv3.int], RgC.neg b1 b2 b3 b4, k Z3 H3 _ _ r3 ((g1.trans g2).trans g3) st3 walks_D q3⟩
/-- the signs of a text -/
def xStrI (t : TE3) : TI3 := fun r R => t r fun x r' => asS x fun z => R (z.cps.toList.map fun c => PyData.str ⟨#[c]⟩) r'
theorem i3_str (h : R3 X e t) : I3 X tg e (xStrI t) := by
  obtain ⟨te, ee, se⟩ := h.ex
  refine ⟨_, pi_str ee, fun G Z H ks vs r s R Q3 st ht k => se G Z H ks vs r s _ _ st ht fun Z1 H1 x v r1 g1 st1 pv q => ?_⟩
  obtain ⟨z, rfl, q⟩ := asS_of q
  exact ⟨z, pv.str, k Z1 H1 _ _ r1 g1 st1 walks_S q⟩
/-- zip of two lists or of two tuples -/
def zipD (l m : List PyData) : List PyData := List.zipWith (fun x y => PyData.tuple [x, y]) l m
def xZip (ta tb : TE3) : TI3 := fun r R => ta r fun x r1 => tb r1 fun y r2 => match x, y with
  | .d (.list l), .d (.list m) => R (zipD l m) r2
  | .d (.tuple l), .d (.tuple m) => R (zipD l m) r2
  | _, _ => False
theorem i3_zip {tpos : Pos} {elts : List Expr} {kk : Nat} (hg : Gl X "zip") (hm : X.mg "zip" = none) (ha : R3 X a ta) (hb : R3 X b tb) (hs : starEach [a, b] X.env = (false, eval a X.env) :: starEach [b] X.env := by rfl) (hs2 : starEach [b] X.env = (false, eval b X.env) :: starEach [] X.env := by rfl)
    (hpl : (backTo pos (starEach [b] X.env)).any (·.1) = false := by rfl) : I3 X (.Tuple elts kk tpos) (.Call (.Name "zip" p) [a, b] [] pos) (xZip ta tb) := by
  obtain ⟨te, ee, se⟩ := ha.ex
  obtain ⟨tf, ef, sf⟩ := hb.ex
  refine ⟨_, RZ.pi_zipA hg hm (pa_cons ee (pa_cons ef pa_nil hs2) hs) hs hpl, fun G Z H ks vs r s R Q3 st ht k => se G Z H ks vs r s _ _ st ht fun Z1 H1 x v r1 g1 st1 pv qa => sf G Z1 H1 ks vs r1 s _ _ st1 qa fun Z2 H2 y u r2 g2 st2 pv2 q => ?_⟩
  have zl : ∀ (l m : List PyData) (i : Nat), (zipD l m).length ≤ i → l.length ≤ i ∨ m.length ≤ i := fun l m i h => by
    unfold zipD at h; rw [List.length_zipWith] at h; omega
  have zg : ∀ (l m : List PyData) (i : Nat) (x : PyData), (zipD l m)[i]? = some x → ∃ y z, l[i]? = some y ∧ m[i]? = some z ∧ x = .tuple [y, z] := fun l m i x h => by
    unfold zipD at h
    rw [List.getElem?_zipWith] at h
    cases e1 : l[i]? with
    | none => rw [e1] at h; cases h
    | some y =>
      cases e2 : m[i]? with
      | none => rw [e1, e2] at h; cases h
      | some z => rw [e1, e2] at h; exact ⟨y, z, rfl, rfl, (Option.some.inj h).symm⟩
  have mk : ∀ {Z' : Hp} {T0 : Addr} {vx vy : V} {y z : PyData}, Dq X.K Z' vx y → Dq X.K Z' vy z → ∀ H, Sub Z' H → H T0 = none → Dq X.K (upd Z' T0 (.tup [vx, vy])) (.ref T0) (.tuple [y, z]) := fun {Z' T0 vx vy y z} d1 d2 H zh hn => by
    have s : Sub Z' (upd Z' T0 (.tup [vx, vy])) := fun a o e => by rw [upd_ne (fun q => by rw [q] at e; have := zh _ _ e; rw [hn] at this; cases this)]; exact e
    exact .tup upd_same (.cons (dp_mono s _ _ d1) (.cons (dp_mono s _ _ d2) .nil))
  clear qa
  split at q
  · rename_i l m
    have pv' : Dq X.K Z2 v (.list l) := dp_mono g2.sub _ _ pv
    cases pv' with
    | @lst a1 xs _ hs1 ha1 =>
      cases (show Dq X.K Z2 u (.list m) from pv2) with
      | @lst a2 ys _ hs2' ha2 =>
        refine ⟨a1, a2, xs, ys, rfl, .inl ⟨SqL.of (st2.zh _ _ hs1), SqL.of (st2.zh _ _ hs2'), k Z2 H2 _ _ r2 (g1.trans g2) st2 (fun Z' H i z zh => ⟨fun x hx => ?_, fun hi => ?_⟩) q⟩⟩
        · obtain ⟨y, w, e1, e2, rfl⟩ := zg l m i x hx
          obtain ⟨vy, f1, d1⟩ := dpa_get ha1 e1
          obtain ⟨vw, f2, d2⟩ := dpa_get ha2 e2
          refine ⟨⟨xs, ys, vy, vw, SqL.of (zh _ _ (z _ _ hs1)), SqL.of (zh _ _ (z _ _ hs2')), f1, f2⟩, fun v' H' ⟨T0, x', y', h1, h2, h3, h4, h5⟩ => .inr ⟨T0, _, h2, h3, ?_⟩⟩
          have i1 := h4 xs (SqL.of (zh _ _ (z _ _ hs1)))
          have i2 := h5 ys (SqL.of (zh _ _ (z _ _ hs2')))
          rw [f1] at i1; cases i1
          rw [f2] at i2; cases i2
          rw [h1]
          exact mk (dp_mono z _ _ d1) (dp_mono z _ _ d2) H zh h2
        · exact ⟨xs, ys, SqL.of (zh _ _ (z _ _ hs1)), SqL.of (zh _ _ (z _ _ hs2')), by rw [← dpa_len ha1, ← dpa_len ha2]; exact zl l m i hi⟩
  · rename_i l m
    have pv' : Dq X.K Z2 v (.tuple l) := dp_mono g2.sub _ _ pv
    cases pv' with
    | @tup a1 xs _ hs1 ha1 =>
      cases (show Dq X.K Z2 u (.tuple m) from pv2) with
      | @tup a2 ys _ hs2' ha2 =>
        refine ⟨a1, a2, xs, ys, rfl, .inr ⟨SqT.of (st2.zh _ _ hs1), SqT.of (st2.zh _ _ hs2'), k Z2 H2 _ _ r2 (g1.trans g2) st2 (fun Z' H i z zh => ⟨fun x hx => ?_, fun hi => ?_⟩) q⟩⟩
        · obtain ⟨y, w, e1, e2, rfl⟩ := zg l m i x hx
          obtain ⟨vy, f1, d1⟩ := dpa_get ha1 e1
          obtain ⟨vw, f2, d2⟩ := dpa_get ha2 e2
          refine ⟨⟨xs, ys, vy, vw, SqT.of (zh _ _ (z _ _ hs1)), SqT.of (zh _ _ (z _ _ hs2')), f1, f2⟩, fun v' H' ⟨T0, x', y', h1, h2, h3, h4, h5⟩ => .inr ⟨T0, _, h2, h3, ?_⟩⟩
          have i1 := h4 xs (SqT.of (zh _ _ (z _ _ hs1)))
          have i2 := h5 ys (SqT.of (zh _ _ (z _ _ hs2')))
          rw [f1] at i1; cases i1
          rw [f2] at i2; cases i2
          rw [h1]
          exact mk (dp_mono z _ _ d1) (dp_mono z _ _ d2) H zh h2
        · exact ⟨xs, ys, SqT.of (zh _ _ (z _ _ hs1)), SqT.of (zh _ _ (z _ _ hs2')), by rw [← dpa_len ha1, ← dpa_len ha2]; exact zl l m i hi⟩
  · exact q.elim
end
end L3
namespace L3
open PySem PySem.Spec PyProof.Rows L2

/-! ### methods of a list of one's own, at a name -/
section
variable {X : Cx} {e : Expr} {t : TE3} {pos p apos : Pos}
/-- x.append(e) -/
def xApp (i : Nat) (t : TE3) : TE3 := fun r Q => match r[i]? with
  | some (some (.own _ _)) => t r fun y r1 => (match r1[i]? with
    | some (some (.own a l)) => l.length < sizeLine ∧ Q (.d .none) (r1.set i (some (.own a (l ++ [y]))))
    | _ => False)
  | _ => False
theorem p3_append (i : Nat) {x : Str} (he : P3 X e t) (hN : X.N[i]? = some x := by rfl) (hv : Vis X.env.scope x := by first | exact Or.inl rfl | exact Or.inr (Or.inl rfl) | exact Or.inr (Or.inr rfl)) (hd : (x == ("__debug__" : Str)) = false := by decide)
    (hcd : (x == ("__classdict__" : Str)) = false := by decide) (hbase : attributeBase (.Name x p) "append" X.env (eval (.Name x p) X.env) = eval (.Name x p) X.env := by rfl) (hline : (apos.endLine == pos.line) = true := by rfl)
    (hfew : ((backTo pos (starEach [e] X.env)).all (fun x => !x.1) && (backToKw pos (keywordEach [] X.env)).all (fun x => x.1.isSome) && decide ([e].length + ([] : List Keyword).length + (if ([] : List Keyword).isEmpty then 0 else 1) < 30)) = true := by rfl)
    (hs : starEach [e] X.env = (false, eval e X.env) :: starEach [] X.env := by rfl) (hpl : (backTo pos (starEach [] X.env)).any (·.1) = false := by rfl) :
    P3 X (.Call (.Attribute (.Name x p) "append" apos) [e] [] pos) (xApp i t) := by
  obtain ⟨te, ee, se⟩ := he.ex
  refine ⟨_, pe_bm PySem.F.plainAttrs_list PySem.F.slot_list_append PySem.F.type_list_append mt_append (pe_var hN hv hd hcd) (pa_cons ee pa_nil hs) hbase hfew hline hs hpl, fun G Z H ks vs r s Q Q3 st ht k => ?_⟩
  unfold xApp at ht
  split at ht
  · rename_i a0 l0 hr0
    obtain ⟨w, ew, rt0⟩ := st.slot i _ hr0
    cases rt0 with
    | own e1 e2 =>
      refine ⟨_, ew, .inl ⟨rfl, _, SqL.of e1⟩, se G Z H ks vs r s _ _ st ht fun Z1 H1 y v r1 g1 st1 q => ?_⟩
      split at q
      · rename_i a l hr
        obtain ⟨w2, ew2, st2⟩ := st1.take hr
        rw [ew] at ew2
        cases ew2
        have rt := st2.top
        cases rt with
        | @own _ _ xs k1 k2 =>
          have st3 := S3.mid' (l := [y]) (xs := [v]) rfl st2
          have rx : RT X.K Z1 H1 y v := by cases st3.stk with | cons q _ => exact q
          have st4 := st3.write (l' := l ++ [y]) (xs' := xs ++ [v]) (rts_snoc k2 rx) (fun b => by rw [cts_append]; simp only [cts]; omega)
          have st5 := st4.back (i := i) (by rw [List.length_set]; exact (List.getElem?_eq_some_iff.mp hr).1) ew
          rw [List.set_set] at st5
          exact ⟨_, xs, v, rfl, rfl, k1, by rw [← rts_len k2]; exact q.1, k _ _ _ _ _ g1 (st5.pushD .non) q.2⟩
      · exact q.elim
  · exact ht.elim
/-- x.pop() -/
def xPop (i : Nat) : TE3 := fun r Q => match r[i]? with
  | some (some (.own a l)) => ∃ y, l.getLast? = some y ∧ Q y (r.set i (some (.own a l.dropLast)))
  | _ => False
theorem p3_pop (i : Nat) {x : Str} (hN : X.N[i]? = some x := by rfl) (hv : Vis X.env.scope x := by first | exact Or.inl rfl | exact Or.inr (Or.inl rfl) | exact Or.inr (Or.inr rfl)) (hd : (x == ("__debug__" : Str)) = false := by decide)
    (hcd : (x == ("__classdict__" : Str)) = false := by decide) (hbase : attributeBase (.Name x p) "pop" X.env (eval (.Name x p) X.env) = eval (.Name x p) X.env := by rfl) (hline : (apos.endLine == pos.line) = true := by rfl) : P3 X (.Call (.Attribute (.Name x p) "pop" apos) [] [] pos) (xPop i) := by
  refine ⟨_, pe_bm0 PySem.F.plainAttrs_list PySem.F.slot_list_pop PySem.F.type_list_pop mt_pop (pe_var hN hv hd hcd) hbase hline, fun G Z H ks vs r s Q Q3 st ht k => ?_⟩
  unfold xPop at ht
  split at ht
  · rename_i a l hr
    obtain ⟨y, hy, ht⟩ := ht
    · skip
      obtain ⟨w, ew, st2⟩ := st.take hr
      have rt := st2.top
      cases rt with
      | @own _ _ xs k1 k2 =>
        rw [List.getLast?_eq_getElem?] at hy
        obtain ⟨v, ev, ry⟩ := rts_get k2 hy
        have cy : ∀ b, cts b l.dropLast + ct b y = cts b l := fun b => by
          have hne : l ≠ [] := fun e => by subst e; simp at hy
          have hl : l.getLast hne = y := by
            have h2 := List.getLast?_eq_getLast (l := l) hne
            rw [List.getLast?_eq_getElem?, hy] at h2
            exact (Option.some.inj h2).symm
          have h3 := List.dropLast_concat_getLast hne
          have h4 : cts b (l.dropLast ++ [l.getLast hne]) = cts b l := by rw [h3]
          rw [cts_append, hl] at h4
          simp only [cts] at h4
          omega
        have dl : ∀ {l : List T} {xs : List V}, RTs X.K Z H l xs → RTs X.K Z H l.dropLast xs.dropLast := by
          intro l
          induction l with
          | nil => intro xs q; cases q; exact .nil
          | cons t l ih =>
            intro xs q
            cases q with
            | cons q1 q2 =>
              cases q2 with
              | nil => exact .nil
              | cons q3 q4 => exact .cons q1 (ih (.cons q3 q4))
        -- the last one on top
        have own1 := st2.one a
        simp only [cts, ct, if_true] at own1
        have h0 := S3.write (t := .d .none) (v := .non) (st2.pushN.pop.pushN) (l' := l.dropLast) (xs' := xs.dropLast) (dl k2) (fun b => by have := cy b; simp only [ct]; omega)
        have h1 := h0.back (i := i) (by rw [List.length_set]; exact (List.getElem?_eq_some_iff.mp hr).1) ew
        rw [List.set_set] at h1
        have ca := cy a
        have hset : ∀ b, cto b (r.set i (some (.own a l.dropLast))) + ct b y = cto b r := fun b => by
          have := cto_set b r i _ (some (.own a l.dropLast)) hr
          have := cy b
          simp only [ctq, ct] at *
          omega
        have ry' : RT X.K Z (upd H a (.lst xs.dropLast)) y v := rt_mono (Sub.refl _) y v (fun b hb o e => by
          rw [upd_ne (fun q => by subst q; omega)]
          exact e) ry
        have st5 : S3 X.K G Z (upd H a (.lst xs.dropLast)) (y :: ks) (v :: vs) (r.set i (some (.own a l.dropLast))) s := ⟨h1.zh, h1.gh, fun b => by
            have h2 := st.one b
            have h3 := hset b
            simp only [cts]
            omega, fun b c => st.ow b (by have h3 := hset b; simp only [cts] at c; omega), .cons ry' h1.stk, h1.slot, h1.len⟩
        refine ⟨_, ew, .inl ⟨rfl, _, SqL.of k1⟩, a, xs, v, rfl, rfl, k1, by rw [← rts_len k2]; exact ev, k Z _ _ _ _ (Gr.refl _ _) st5 ht⟩
  · exact ht.elim
/-- x.clear() -/
def xClear (i : Nat) : TE3 := fun r Q => match r[i]? with
  | some (some (.own a l)) => Q (.d .none) (r.set i (some (.own a [])))
  | _ => False
theorem p3_clear (i : Nat) {x : Str} (hN : X.N[i]? = some x := by rfl) (hv : Vis X.env.scope x := by first | exact Or.inl rfl | exact Or.inr (Or.inl rfl) | exact Or.inr (Or.inr rfl)) (hd : (x == ("__debug__" : Str)) = false := by decide)
    (hcd : (x == ("__classdict__" : Str)) = false := by decide) (hbase : attributeBase (.Name x p) "clear" X.env (eval (.Name x p) X.env) = eval (.Name x p) X.env := by rfl) (hline : (apos.endLine == pos.line) = true := by rfl) : P3 X (.Call (.Attribute (.Name x p) "clear" apos) [] [] pos) (xClear i) := by
  refine ⟨_, pe_bm0 PySem.F.plainAttrs_list PySem.F.slot_list_clear PySem.F.type_list_clear mt_clear (pe_var hN hv hd hcd) hbase hline, fun G Z H ks vs r s Q Q3 st ht k => ?_⟩
  unfold xClear at ht
  split at ht
  · rename_i a l hr
    obtain ⟨w, ew, st2⟩ := st.take hr
    have rt := st2.top
    cases rt with
    | @own _ _ xs k1 k2 =>
      have h0 := S3.write (t := .d .none) (v := .non) (st2.pushN) (l' := []) (xs' := []) .nil (fun b => by simp only [cts]; omega)
      have h1 := h0.back (i := i) (by rw [List.length_set]; exact (List.getElem?_eq_some_iff.mp hr).1) ew
      rw [List.set_set] at h1
      exact ⟨_, ew, .inl ⟨rfl, _, SqL.of k1⟩, a, xs, rfl, rfl, k1, k Z _ _ _ _ (Gr.refl _ _) (h1.pushD .non) ht⟩
  · exact ht.elim
end

/-! ### a def's promise by its body -/
def start3 (N : List Str) (ts : List T) : Rho := ts.map some ++ List.replicate (N.length - ts.length) none
/-- the arguments as they stand behind the body: lists of one's own may have changed -/
def finOk : List T → Rho → Prop
  | [], _ => True
  | .own a _ :: ts, some (.own b _) :: r => a = b ∧ finOk ts r
  | .d _ :: ts, _ :: r => finOk ts r
  | .v _ :: ts, _ :: r => finOk ts r
  | .sc _ _ :: ts, _ :: r => finOk ts r
  | _, _ => False
def finF : List T → Rho → List T
  | .own _ _ :: ts, some (.own b l) :: r => .own b l :: finF ts r
  | .d x :: ts, _ :: r => .d x :: finF ts r
  | .v x :: ts, _ :: r => .v x :: finF ts r
  | .sc a ns :: ts, _ :: r => .sc a ns :: finF ts r
  | _, _ => []
theorem cto_fin (a : Addr) : ∀ (ts : List T) (r : Rho), finOk ts r → cts a (finF ts r) ≤ cto a r
  | [], r, _ => by simp [finF, cts]
  | .own b l :: ts, [], h => by simp [finOk] at h
  | .own b l :: ts, none :: r, h => by simp [finOk] at h
  | .own b l :: ts, some (.own c m) :: r, h => by
    have h2 : b = c ∧ finOk ts r := h
    have := cto_fin a ts r h2.2
    simp only [finF, cts, cto]
    omega
  | .own b l :: ts, some (.d _) :: r, h => by simp [finOk] at h
  | .own b l :: ts, some (.v _) :: r, h => by simp [finOk] at h
  | .own b l :: ts, some (.sc _ _) :: r, h => by simp [finOk] at h
  | .own b l :: ts, some (.tp _) :: r, h => by simp [finOk] at h
  | .d x :: ts, [], h => by simp [finOk] at h
  | .v x :: ts, [], h => by simp [finOk] at h
  | .sc b ns :: ts, [], h => by simp [finOk] at h
  | .d x :: ts, q :: r, h => by
    have := cto_fin a ts r h
    rw [cto_cons]
    simp only [finF, cts, ct]
    omega
  | .v x :: ts, q :: r, h => by
    have := cto_fin a ts r h
    rw [cto_cons]
    simp only [finF, cts, ct]
    omega
  | .sc b ns :: ts, q :: r, h => by
    have := cto_fin a ts r h
    rw [cto_cons]
    simp only [finF, cts, ct]
    omega
  | .tp l :: ts, r, h => by cases r <;> simp [finOk] at h
theorem rts_fin {K : PySem.W.Frag} {Z Z' H H' : Hp} (z : Sub Z Z') : ∀ (ts : List T) (vs : List V) (r : Rho) (s : L2.St), RTs K Z H ts vs → finOk ts r → r.length = s.length → (∀ (i : Nat) (t : T), r[i]? = some (some t) → ∃ v, s[i]? = some (some v) ∧ RT K Z' H' t v) → RTs K Z' H' (finF ts r) vs
  | [], _, r, s, .nil, _, _, _ => .nil
  | t :: ts, _, [], s, .cons p q, h, _, _ => by cases t <;> simp [finOk] at h
  | t :: ts, _, x :: r, [], .cons p q, h, hl, _ => by simp at hl
  | t :: ts, v :: vs, x :: r, y :: s, .cons p q, h, hl, hs => by
    have tail : finOk ts r → RTs K Z' H' (finF ts r) vs := fun h => rts_fin z ts _ r s q h (by simpa using hl) fun i t e => by
      have := hs (i + 1) t (by simpa using e)
      simpa using this
    cases t with
    | d x0 =>
      cases p with
      | d p => exact .cons (.d (dp_mono z _ _ p)) (tail h)
    | v x0 => cases p; exact .cons .v (tail h)
    | sc a ns =>
      cases p with
      | sc p => exact .cons (.sc (z.L p)) (tail h)
    | tp l => simp [finOk] at h
    | own a l =>
      cases x with
      | none => simp [finOk] at h
      | some t' =>
        cases t' with
        | own b m =>
          have h2 : a = b ∧ finOk ts r := h
          obtain ⟨rfl, h3⟩ := h2
          obtain ⟨w, e1, rt⟩ := hs 0 (.own a m) rfl
          have e2 : y = some w := by simpa using e1
          cases p with
          | own p1 p2 =>
            cases rt with
            | own q1 q2 => exact .cons (.own q1 q2) (tail h3)
        | d _ => simp [finOk] at h
        | v _ => simp [finOk] at h
        | sc _ _ => simp [finOk] at h
        | tp _ => simp [finOk] at h
section
variable {P : Program} {w : World} {K : PySem.W.Frag} {mg : Str → Option Value} {base : Heap}
theorem start_st {G Z H : Hp} {ts : List T} {vs : List V} {N : List Str} (h : S3 K G Z H ts vs [] []) : S3 K G Z H [] [] (start3 N ts) (L2.start N vs) := by
  have hl := rts_len h.stk
  have cs : ∀ (a : Addr) (l : List T) (n : Nat), cto a (l.map some ++ List.replicate n none) = cts a l := by
    intro a l n
    induction l with
    | nil =>
      induction n with
      | zero => rfl
      | succ n ih => rw [List.map_nil, List.nil_append, List.replicate_succ]; show cto a (List.replicate n none) = _; simpa using ih
    | cons t l ih => simp only [List.map_cons, List.cons_append, cto, cts, ih]
  refine ⟨h.zh, h.gh, fun a => ?_, fun a c => h.ow a ?_, .nil, fun i t e => ?_, ?_⟩
  · have := h.one a
    unfold start3
    rw [cs]
    simp only [cts, cto] at *
    omega
  · unfold start3 at c
    rw [cs] at c
    simp only [cts, cto] at *
    omega
  · unfold start3 at e
    unfold L2.start
    by_cases hi : i < ts.length
    · rw [List.getElem?_append_left (by rw [List.length_map]; exact hi), List.getElem?_map] at e
      cases q : ts[i]? with
      | none => rw [q] at e; cases e
      | some t' =>
        rw [q] at e
        cases e
        obtain ⟨v, ev, rt⟩ := rts_get h.stk q
        exact ⟨v, by rw [List.getElem?_append_left (by rw [List.length_map, ← hl]; exact hi), List.getElem?_map, ev]; rfl, rt⟩
    · rw [List.getElem?_append_right (by rw [List.length_map]; omega), List.getElem?_replicate] at e
      split at e <;> cases e
  · unfold start3 L2.start
    rw [List.length_append, List.length_append, List.length_map, List.length_map, List.length_replicate, List.length_replicate, hl]
/-- THE RULE for a def that raises nothing: its body by values -/
theorem ok3 {x qual : Str} {st : Stmt} {f : Addr} {fd : FuncData} {N ps : List Str} {k : Nat} {sp : Sp3} (F : Fun K x qual st f fd) (S : FnScope N ps (defScope st)) (len : ∀ ts Q E, sp ts Q E → ts.length = ps.length)
    (hbody : ∀ (cdv : Value) (A : Around) (outer : List Env) (s : Shared) (H : Hp) (E : XK), Room k (A.deeper (envOfC qual (defScope st) s.heap.objs.size f cdv)) →
      ∃ t, B3 (cxOf CX0 P w K mg base N qual (defScope st) f cdv A outer s H E).nox (defBody st) t ∧ ∀ ts Q3 E3, sp ts Q3 E3 → t { nx := fun r => finOk ts r ∧ Q3 (.d .none) (finF ts r), rt := fun x r => finOk ts r ∧ Q3 x (finF ts r) } (start3 N ts)) :
    FnOk P w K mg base CX0 (k + 1) f fd ps (lift K sp) := by
  refine F.ok S (fun vs H Q E h => ?_) (fun cdv A outer s H vs Q E hr h => ?_)
  · obtain ⟨G, Z, ts, Q3, E3, st, hsp, _⟩ := h
    rw [← rts_len st.stk]
    exact len _ _ _ hsp
  · obtain ⟨G, Z, ts, Q3, E3, st, hsp, hq, _⟩ := h
    obtain ⟨t, hB, ht⟩ := hbody cdv A outer s H E hr
    obtain ⟨te, eb, sb⟩ := hB.ex _ takes0
    have ret : ∀ Z' H' r' s' x v, Gr G Z Z' → S3 K G Z' H' [x] [v] r' s' → (finOk ts r' ∧ Q3 x (finF ts r')) → Q v H' := fun Z' H' r' s' x v g st' q => by
      refine hq Z' H' x v (finF ts r') g ⟨st'.zh, st'.gh, fun a => ?_, fun a c => st'.ow a ?_, .cons st'.top (rts_fin g.sub ts vs r' s' st.stk q.1 st'.len st'.slot), fun i t e => by simp at e, rfl⟩ q.2
      · have h1 := st'.one a
        have h2 := cto_fin a ts r' q.1
        simp only [cts, cto] at *
        omega
      · have h2 := cto_fin a ts r' q.1
        simp only [cts, cto] at *
        omega
    exact ⟨te, eb, sb G Z H _ _ _ _ (start_st st) (ht ts Q3 E3 hsp) ⟨fun Z' H' r' s' g st' q => ret Z' H' r' s' _ _ g (st'.pushD .non) q, fun Z' H' r' s' x v g st' q => ret Z' H' r' s' x v g st' q, fun _ _ _ _ _ _ q => q.elim, fun _ _ _ _ _ _ q => q.elim, fun _ _ _ _ _ _ _ q => q.elim⟩⟩
/-- the law's own promise -/
def spLaw : Sp3 := fun ts Q _ => ∃ a ns, ts = [.sc a ns] ∧ ns.length ≤ 63 ∧ ∀ ts', Q (.d (.bool true)) ts'
theorem spLaw_of (H : Hp) (a : Addr) (ns : List Int) (hl : ns.length ≤ 63) (hS : SqL K H a (ns.map V.int)) : lift K spLaw [.ref a] H (fun v _ => v = .bl true) fun _ _ _ => False := by
  refine ⟨fun _ => none, H, [.sc a ns], fun x _ => x = .d (.bool true), fun _ _ => False, ⟨Sub.refl _, fun a o e => (by cases e), fun b => (by simp [cts, ct, cto]), fun b c => (by simp [cts, ct, cto] at c), .cons (.sc hS) .nil, fun i t e => by simp at e, rfl⟩, ⟨a, ns, rfl, hl, fun _ => rfl⟩, fun Z' H' x v ts' g st q => ?_, fun _ _ _ _ _ _ q => q.elim⟩
  subst q
  have h := st.top
  cases h with
  | d h => cases h; rfl
end
end L3
namespace L3
open PySem PySem.Spec PyProof.Rows L2

/-! ### the short names that the printed bodies use -/
abbrev kAdd : C2 := cI0 fun i j => .int (i + j)
abbrev kSub : C2 := cI0 fun i j => .int (i - j)
abbrev kMul : C2 := cI MulOk fun i j => .int (i * j)
abbrev kDiv : C2 := cI CDivW fun i j => .int (i / j)
abbrev kMod : C2 := cI (fun _ j => 0 < j) fun i j => .int (i % j)
abbrev kPow : C2 := cI CPow fun i j => .int (i ^ j.toNat)
abbrev kShl : C2 := cI CPow fun i j => .int (i * 2 ^ j.toNat)
abbrev kLt : C2 := cI0 fun i j => .bool (decide (i < j))
abbrev kLe : C2 := cI0 fun i j => .bool (decide (i ≤ j))
abbrev kGt : C2 := cI0 fun i j => .bool (decide (j < i))
abbrev kGe : C2 := cI0 fun i j => .bool (decide (j ≤ i))
abbrev kMax : C2 := cI0 fun i j => .int (max i j)
abbrev kMin : C2 := cI0 fun i j => .int (min i j)
abbrev kEq : C2 := cEq fun b => b
abbrev kNe : C2 := cEq fun b => !b
abbrev kEqI : C2 := cEqI fun b => b
abbrev kNeI : C2 := cEqI fun b => !b
abbrev kIsN : C2 := cIsN fun b => b
abbrev kNotN : C2 := cIsN fun b => !b
abbrev pLt : Int → Int → Bool := fun i j => decide (i < j)
abbrev pLe : Int → Int → Bool := fun i j => decide (i ≤ j)
abbrev pGt : Int → Int → Bool := fun i j => decide (j < i)
abbrev pGe : Int → Int → Bool := fun i j => decide (j ≤ i)
abbrev xAugAdd : Nat → TE3 → TS3 := xAug (fun _ _ => True) fun i j => i + j
abbrev xAugSub : Nat → TE3 → TS3 := xAug (fun _ _ => True) fun i j => i - j
abbrev xAugMul : Nat → TE3 → TS3 := xAug MulOk fun i j => i * j
abbrev xNoE : Addr → List T → Prop := fun _ _ => False

/-! ### a def of the module, by its name -/
def Cal (P : Program) (w : World) (K : PySem.W.Frag) (mg : Str → Option Value) (base : Heap) (x : Str) (k : Nat) (ps : List Str) (sp : Sp3) : Prop :=
  ∃ f fd, FnOk P w K mg base CX0 k f fd ps (lift K sp) ∧ mg x = some (.ref f) ∧ PySem.W.keepIn K (.ref f) = true ∧ Binds K fd ps []
section
variable {X : Cx} {es : List Expr} {e : Expr} {u : TC3} {pos p : Pos} {sp : Sp3} {k j : Nat} {ps : List Str} {x : Str} {t ta : TE3}
theorem p3_cal (c : Cal X.prog X.w X.K X.mg X.base x k ps sp) (hr : Room k X.A) (hg : Gl X x) (hu : C3 X (e :: es) u)
    (hdb : (x == ("__debug__" : Str)) = false := by decide) (he : starEach (e :: es) X.env = (false, eval e X.env) :: starEach es X.env := by rfl) (hpl : (backTo pos (starEach es X.env)).any (·.1) = false := by rfl) :
    P3 X (.Call (.Name x p) (e :: es) [] pos) (xCall sp xNoE u) := by
  obtain ⟨f, fd, F, hm, hk, hb⟩ := c
  exact p3_call F hr hg hm hk hb hu hdb he hpl
theorem p3_cal0 (c : Cal X.prog X.w X.K X.mg X.base x k ps sp) (hr : Room k X.A) (hg : Gl X x) (hdb : (x == ("__debug__" : Str)) = false := by decide) : P3 X (.Call (.Name x p) [] [] pos) (xCall sp xNoE xANil) := by
  obtain ⟨f, fd, F, hm, hk, hb⟩ := c
  exact p3_call0 F hr hg hm hk hb hdb
end

/-! ### isinstance -/
def tyN : PyData → String
  | .none => "NoneType"
  | .bool _ => "bool"
  | .int _ => "int"
  | .str _ => "str"
  | .list _ => "list"
  | .tuple _ => "tuple"
  | .dict _ => "dict"
theorem tyx_L {K : PySem.W.Frag} {H : Hp} {a : Addr} {xs : List V} (h : SqL K H a xs) : TyX K H (.ref a) (.type "list") := by
  rcases h with (h | ⟨o, h⟩) | ⟨o, its, n, h, hc, _⟩
  · exact .base (.lst h)
  · exact .base (.frz h)
  · exact .kList h hc
/-- isinstance of data: which class it is of, by the table of the built-in ones -/
def isi (b : String) (x : PyData) : Bool := (kitB (tyN x) b).getD false
theorem kit_all (b : String) (h : (["NoneType", "bool", "int", "str", "list", "tuple"].all fun a => (kitB a b).isSome) = true) (x : PyData) (hx : ∀ l, x ≠ .dict l) : kitB (tyN x) b = some (isi b x) := by
  simp only [List.all_cons, List.all_nil, Bool.and_true, Bool.and_eq_true] at h
  obtain ⟨h1, h2, h3, h4, h5, h6⟩ := h
  have g : ∀ o : Option Bool, o.isSome = true → o = some (o.getD false) := fun o h => by
    cases o with
    | none => cases h
    | some b => rfl
  unfold isi
  cases x with
  | none => exact g _ h1
  | bool _ => exact g _ h2
  | int _ => exact g _ h3
  | str _ => exact g _ h4
  | list _ => exact g _ h5
  | tuple _ => exact g _ h6
  | dict l => exact absurd rfl (hx l)
section
variable {X : Cx} {e a : Expr} {t ta : TE3} {pos p p2 : Pos}
theorem tyx_of {K : PySem.W.Frag} {G Z H : Hp} {ks : List T} {vs : List V} {r : Rho} {s : L2.St} {x : PyData} {v : V} (st : S3 K G Z H ks vs r s) (h : Dq K Z v x) (nd : ∀ l, x ≠ .dict l) : TyX K H v (.type (tyN x)) ∧ ∀ l, x ≠ .dict l := by
  cases h with
  | exc _ _ => exact absurd rfl (nd _)
  | non => exact ⟨.base .non, fun _ q => nomatch q⟩
  | bl b => exact ⟨.base (.bl b), fun _ q => nomatch q⟩
  | int i => exact ⟨.base (.int i), fun _ q => nomatch q⟩
  | str x => exact ⟨.base (.str x), fun _ q => nomatch q⟩
  | lst h _ => exact ⟨tyx_L (SqL.of (st.zh _ _ h)), fun _ q => nomatch q⟩
  | tup h _ => exact ⟨.base (.tup (st.zh _ _ h)), fun _ q => nomatch q⟩
def cIsi (b : String) : C1 := fun x r Q => match x with
  | .d (.dict _) => False
  | .d y => Q (.d (.bool (isi b y))) r
  | .own _ _ => Q (.d (.bool (isi b (.list [])))) r
  | _ => False
theorem cIsi_of {b : String} {y : PyData} {r : Rho} {Q : T → Rho → Prop} (h : cIsi b (.d y) r Q) : (∀ l, y ≠ .dict l) ∧ Q (.d (.bool (isi b y))) r := by
  cases y with
  | dict _ => exact h.elim
  | none => exact ⟨fun _ q => (nomatch q), h⟩
  | bool _ => exact ⟨fun _ q => (nomatch q), h⟩
  | int _ => exact ⟨fun _ q => (nomatch q), h⟩
  | str _ => exact ⟨fun _ q => (nomatch q), h⟩
  | list _ => exact ⟨fun _ q => (nomatch q), h⟩
  | tuple _ => exact ⟨fun _ q => (nomatch q), h⟩
theorem r3_isi {b : String} {y : Str} (hg : Gl X "isinstance") (hm : X.mg "isinstance" = none) (hgb : Gl X y) (hmb : X.mg y = none) (hv : bootBuiltins y = some (.type b)) (hk : (["NoneType", "bool", "int", "str", "list", "tuple"].all fun a => (kitB a b).isSome) = true) (ha : R3 X a ta)
    (hn : y ≠ "__name__" := by decide) (hd : (y == ("__debug__" : Str)) = false := by decide) (he : starEach [a, .Name y p2] X.env = (false, eval a X.env) :: starEach [.Name y p2] X.env := by rfl) (he2 : starEach [.Name y p2] X.env = (false, eval (.Name y p2) X.env) :: starEach [] X.env := by rfl)
    (hpl : (backTo pos (starEach [.Name y p2] X.env)).any (·.1) = false := by rfl) : R3 X (.Call (.Name "isinstance" p) [a, .Name y p2] [] pos) (x1 (cIsi b) ta) := by
  obtain ⟨tea, ea, sa⟩ := ha.ex
  refine ⟨_, pe_callB call_isi hg hm boot_isinstance (pa_cons ea (pa_cons (pe_bltn (v := .ty b) hgb hmb hv rfl hn hd) pa_nil he2) he) (by decide) (by decide) he hpl, fun G Z H ks vs r s Q Q3 st ht k => sa G Z H ks vs r s _ _ st ht fun Z1 H1 x v r1 g1 st1 pv q => ?_⟩
  cases x with
  | d y =>
    obtain ⟨nd, q⟩ := cIsi_of q
    obtain ⟨t1, n1⟩ := tyx_of st1 pv nd
    exact ⟨v, .ty b, _, _, _, rfl, .ty b, t1, kit_ty (kit_all b hk y n1), k Z1 H1 (.d (.bool _)) _ r1 g1 st1 (Dq.bl _) q⟩
  | own a0 l =>
    have rt := pv.now st1
    cases rt with
    | own h1 h2 => exact ⟨_, .ty b, _, _, _, rfl, .ty b, tyx_L (SqL.of h1), kit_ty (kit_all b hk (.list []) (fun _ q => nomatch q)), k Z1 H1 (.d (.bool _)) _ r1 g1 st1 (Dq.bl _) q⟩
  | v _ => exact q.elim
  | sc _ _ => exact q.elim
  | tp _ => exact q.elim
def cIsi2 (b c : String) : C1 := fun x r Q => match x with
  | .d (.dict _) => False
  | .d y => Q (.d (.bool (isi b y || isi c y))) r
  | .own _ _ => Q (.d (.bool (isi b (.list []) || isi c (.list [])))) r
  | _ => False
theorem cIsi2_of {b c : String} {y : PyData} {r : Rho} {Q : T → Rho → Prop} (h : cIsi2 b c (.d y) r Q) : (∀ l, y ≠ .dict l) ∧ Q (.d (.bool (isi b y || isi c y))) r := by
  cases y with
  | dict _ => exact h.elim
  | none => exact ⟨fun _ q => (nomatch q), h⟩
  | bool _ => exact ⟨fun _ q => (nomatch q), h⟩
  | int _ => exact ⟨fun _ q => (nomatch q), h⟩
  | str _ => exact ⟨fun _ q => (nomatch q), h⟩
  | list _ => exact ⟨fun _ q => (nomatch q), h⟩
  | tuple _ => exact ⟨fun _ q => (nomatch q), h⟩
theorem r3_isi2 {b c : String} {y z : Str} {kk : Nat} {p3 p4 : Pos} (hg : Gl X "isinstance") (hm : X.mg "isinstance" = none) (hgb : Gl X y) (hmb : X.mg y = none) (hv : bootBuiltins y = some (.type b)) (hgc : Gl X z) (hmc : X.mg z = none) (hvc : bootBuiltins z = some (.type c))
    (hk : (["NoneType", "bool", "int", "str", "list", "tuple"].all fun a => (kitB a b).isSome && (kitB a c).isSome) = true) (ha : R3 X a ta)
    (hn : y ≠ "__name__" := by decide) (hd : (y == ("__debug__" : Str)) = false := by decide) (hn2 : z ≠ "__name__" := by decide) (hd2 : (z == ("__debug__" : Str)) = false := by decide)
    (he : starEach [a, .Tuple [.Name y p2, .Name z p3] kk p4] X.env = (false, eval a X.env) :: starEach [.Tuple [.Name y p2, .Name z p3] kk p4] X.env := by rfl) (he2 : starEach [.Tuple [.Name y p2, .Name z p3] kk p4] X.env = (false, eval (.Tuple [.Name y p2, .Name z p3] kk p4) X.env) :: starEach [] X.env := by rfl)
    (he3 : starEach [.Name y p2, .Name z p3] X.env = (false, eval (.Name y p2) X.env) :: starEach [.Name z p3] X.env := by rfl) (he4 : starEach [.Name z p3] X.env = (false, eval (.Name z p3) X.env) :: starEach [] X.env := by rfl)
    (hpl : (backTo pos (starEach [.Tuple [.Name y p2, .Name z p3] kk p4] X.env)).any (·.1) = false := by rfl) : R3 X (.Call (.Name "isinstance" p) [a, .Tuple [.Name y p2, .Name z p3] kk p4] [] pos) (x1 (cIsi2 b c) ta) := by
  obtain ⟨tea, ea, sa⟩ := ha.ex
  have hkb : (["NoneType", "bool", "int", "str", "list", "tuple"].all fun a => (kitB a b).isSome) = true := by
    rw [List.all_eq_true] at hk ⊢
    exact fun x hx => (Bool.and_eq_true _ _ ▸ hk x hx).1
  have hkc : (["NoneType", "bool", "int", "str", "list", "tuple"].all fun a => (kitB a c).isSome) = true := by
    rw [List.all_eq_true] at hk ⊢
    exact fun x hx => (Bool.and_eq_true _ _ ▸ hk x hx).2
  refine ⟨_, pe_callB call_isiT hg hm boot_isinstance (pa_cons ea (pa_cons (pe_tup (pa_cons (pe_bltn (v := .ty b) hgb hmb hv rfl hn hd) (pa_cons (pe_bltn (v := .ty c) hgc hmc hvc rfl hn2 hd2) pa_nil he4) he3)) pa_nil he2) he) (by decide) (by decide) he hpl, fun G Z H ks vs r s Q Q3 st ht k => sa G Z H ks vs r s _ _ st ht fun Z1 H1 x v r1 g1 st1 pv q => ?_⟩
  have fin : ∀ y : PyData, (∀ l, y ≠ .dict l) → ∀ tp : Addr, TyX X.K (upd H1 tp (.tup [.ty b, .ty c])) v (.type (tyN y)) → H1 tp = none → Q3 (.d (.bool (isi b y || isi c y))) r1 →
      rIsiT X.K [v, .ref tp] (upd H1 tp (.tup [.ty b, .ty c])) Q := fun y hy tp ty hn q => by
    refine ⟨v, tp, _, _, _, (isi b y || isi c y), rfl, upd_same, .cons (.ty b) (.cons (.ty c) .nil), ty, kitAny_cons (kit_ty (kit_all b hkb y hy)) (fun e => ?_) (fun e => ?_), k Z1 _ (.d (.bool _)) _ r1 g1 (st1.laid hn) (Dq.bl _) q⟩
    · refine kitAny_cons (kit_ty (kit_all c hkc y hy)) (fun e2 => ?_) (fun e2 => ?_)
      · rw [e, e2]; exact kitAny_nil
      · rw [e2, Bool.or_true]
    · rw [e, Bool.true_or]
  refine ⟨by show 2 ≤ sizeLine; decide, fun tp hn => ?_⟩
  cases x with
  | d y =>
    obtain ⟨nd, q⟩ := cIsi2_of q
    obtain ⟨t1, n1⟩ := tyx_of (st1.laid (o := .tup [.ty b, .ty c]) hn) pv nd
    exact fin y n1 tp t1 hn q
  | own a0 l =>
    have rt := pv.now (st1.laid (o := .tup [.ty b, .ty c]) hn)
    cases rt with
    | own h1 h2 => exact fin (.list []) (fun _ q => nomatch q) tp (tyx_L (SqL.of h1)) hn q
  | v _ => exact q.elim
  | sc _ _ => exact q.elim
  | tp _ => exact q.elim

/-! ### sorted -/
def cSrt : C1 := fun x r Q => asIs x fun ns => ∀ (ns' : List Int) p, ns'.Perm ns → ns'.Pairwise (· ≤ ·) → Q (.own p (ns'.map fun n => T.d (.int n))) r
theorem con_srt : Con1P X (rSortedI X.K) cSrt := fun G Z H ks vs r s x tx Q Q3 st px hc k => by
  obtain ⟨a, ns, rfl, hs, q⟩ := asIs_of hc st px
  refine ⟨a, ns, rfl, hs, fun ns' p h1 h2 hp => ?_⟩
  have := st.newD (dqa_ints ns') hp
  rw [List.map_map] at this
  exact k Z _ _ _ r (Gr.refl _ _) this (q ns' p h1 h2)
theorem p3_sortedI (hg : Gl X "sorted") (hm : X.mg "sorted" = none) (ha : R3 X a ta) (he : starEach [a] X.env = (false, eval a X.env) :: starEach [] X.env := by rfl) : P3 X (.Call (.Name "sorted" p) [a] [] pos) (x1 cSrt ta) := p3_callB cr_sortedI con_srt hg hm boot_sorted ha (by decide) (by decide) he
/-- a pair of ints as data -/
abbrev prI (x : Int × Int) : PyData := .tuple [.int x.1, .int x.2]
def allP : List PyData → Bool
  | [] => true
  | .tuple [.int _, .int _] :: l => allP l
  | _ :: _ => false
def prL : List PyData → List (Int × Int)
  | [] => []
  | .tuple [.int i, .int j] :: l => (i, j) :: prL l
  | _ :: l => prL l
theorem allP_eq : ∀ {l : List PyData}, allP l = true → l = (prL l).map prI
  | [], _ => rfl
  | x :: l, h => by
    unfold allP at h
    split at h
    · rename_i e; cases e
    · rename_i i j l' e
      cases e
      simp only [prL, List.map_cons]
      rw [← allP_eq h]
    · cases h
/-- x before y or like it -/
def leP (x y : Int × Int) : Prop := x.1 < y.1 ∨ (x.1 = y.1 ∧ x.2 ≤ y.2)
def cSrtP : C1 := fun x r Q => match x with
  | .d (.list l) => allP l = true ∧ ∀ (l' : List (Int × Int)) p, l'.Perm (prL l) → l'.Pairwise leP → Q (.own p (l'.map fun z => T.d (prI z))) r
  | _ => False
theorem con_srtP : Con1P X (rSortedPO X.K) cSrtP := fun G Z H ks vs r s x tx Q Q3 st px hc k => by
  unfold cSrtP at hc
  split at hc
  · rename_i l
    cases (show Dq X.K Z x (.list l) from px) with
    | @lst a xs _ hs ha =>
      have e := allP_eq hc.1
      generalize prL l = ps at e hc
      subst e
      -- the pair that a value is
      let kf : V → Int × Int := fun v => match v with
        | .ref t => (match H t with | some (.tup [.int i, .int j]) => (i, j) | _ => (0, 0))
        | _ => (0, 0)
      have one : ∀ {v : V} {z : Int × Int}, Dq X.K Z v (prI z) → kf v = z ∧ ∃ t, v = V.ref t ∧ H t = some (.tup [.int z.1, .int z.2]) := fun {v z} h => by
        cases h with
        | @tup t ys _ ht hd =>
          cases hd with
          | cons d1 d2 =>
            cases d2 with
            | cons d3 d4 =>
              cases d1; cases d3; cases d4
              have e := st.zh _ _ ht
              refine ⟨?_, t, rfl, e⟩
              show (match H t with | some (.tup [.int i, .int j]) => (i, j) | _ => (0, 0)) = z
              rw [e]
      have all : ∀ {xs : List V} {ps : List (Int × Int)}, DqAll X.K Z xs (ps.map prI) → xs.map kf = ps ∧ ∀ x ∈ xs, Dq X.K Z x (prI (kf x)) := by
        intro xs
        induction xs with
        | nil => intro ps h; cases ps with | nil => exact ⟨rfl, by simp⟩ | cons _ _ => cases h
        | cons x xs ih =>
          intro ps h
          cases ps with
          | nil => cases h
          | cons q ps =>
            cases h with
            | cons h1 h2 =>
              obtain ⟨e1, e2⟩ := ih h2
              obtain ⟨e3, _⟩ := one h1
              refine ⟨by rw [List.map_cons, e1, e3], fun y hy => ?_⟩
              rcases List.mem_cons.mp hy with rfl | hy
              · rw [e3]; exact h1
              · exact e2 y hy
      obtain ⟨e1, e2⟩ := all ha
      refine ⟨a, xs, kf, rfl, SqL.of (st.zh _ _ hs), fun y hy => ?_, fun ys p hsr hst hp => ?_⟩
      · obtain ⟨_, t, e3, e4⟩ := one (e2 y hy)
        exact ⟨t, e3, e4⟩
      · have hperm : ys.Perm xs := hst.perm
        have dy : ∀ y ∈ ys, Dq X.K Z y (prI (kf y)) := fun y hy => e2 y (hperm.mem_iff.mp hy)
        have dys : ∀ {ys : List V}, (∀ y ∈ ys, Dq X.K Z y (prI (kf y))) → DqAll X.K Z ys ((ys.map kf).map prI) := by
          intro ys
          induction ys with
          | nil => intro _; exact .nil
          | cons y ys ih => intro h; exact .cons (h y (List.mem_cons_self ..)) (ih fun z hz => h z (List.mem_cons_of_mem _ hz))
        have h3 := st.newD (dys dy) hp
        rw [List.map_map] at h3
        refine k Z _ _ _ r (Gr.refl _ _) h3 (hc.2 (ys.map kf) p (by rw [← e1]; exact hperm.map kf) ?_)
        rw [List.pairwise_map]
        refine List.Pairwise.imp ?_ hsr
        intro u v huv
        have := SrtO.lexB_no.mp huv
        unfold leP
        omega
  · exact hc.elim
theorem p3_sortedP (hg : Gl X "sorted") (hm : X.mg "sorted" = none) (ha : R3 X a ta) (he : starEach [a] X.env = (false, eval a X.env) :: starEach [] X.env := by rfl) : P3 X (.Call (.Name "sorted" p) [a] [] pos) (x1 cSrtP ta) := p3_callB cr_sortedPO con_srtP hg hm boot_sorted ha (by decide) (by decide) he
end
end L3
namespace L3
open PySem PySem.Spec PyProof.Rows L2
section
variable {P : Program} {w : World} {K : PySem.W.Frag} {mg : Str → Option Value} {base : Heap}
/-- a promise that nobody asks for -/
theorem ok0 {x qual : Str} {st : Stmt} {f : Addr} {fd : FuncData} {N ps : List Str} {k : Nat} {sp : Sp3} (F : Fun K x qual st f fd) (S : FnScope N ps (defScope st)) (z : ∀ ts Q E, sp ts Q E → False) : FnOk P w K mg base CX0 (k + 1) f fd ps (lift K sp) := by
  refine F.ok S (fun vs H Q E h => ?_) (fun cdv A outer s H vs Q E hr h => ?_)
  · obtain ⟨G, Z, ts, Q3, E3, st, hsp, _⟩ := h
    exact (z _ _ _ hsp).elim
  · obtain ⟨G, Z, ts, Q3, E3, st, hsp, _⟩ := h
    exact (z _ _ _ hsp).elim
theorem Cal.mono {x : Str} {j k : Nat} {ps : List Str} {sp : Sp3} (c : Cal P w K mg base x j ps sp) (h : j ≤ k) : Cal P w K mg base x k ps sp := by
  obtain ⟨f, fd, F, r⟩ := c
  exact ⟨f, fd, F.mono h, r⟩
end
end L3
namespace L3
open PySem PySem.Spec PyProof.Rows L2
/-! ### lists of one's own lent to an expression that only reads -/
/-- a slot as it is lent -/
def borQ : Option T → Option T
  | some (.own a l) => some (.d (fz (.own a l)))
  | some (.tp l) => some (.d (fz (.tp l)))
  | q => q
/-- every list of one's own may be lent -/
def nvR : Rho → Prop
  | [] => True
  | some (.own _ l) :: r => nvs l = true ∧ nvR r
  | some (.tp l) :: r => nvs l = true ∧ nvR r
  | _ :: r => nvR r
theorem nvR_at : ∀ {r : Rho} {i : Nat} {t : T}, nvR r → r[i]? = some (some t) → (∀ a l, t = .own a l → nvs l = true) ∧ (∀ l, t = .tp l → nvs l = true)
  | [], i, t, h, e => by simp at e
  | q :: r, i + 1, t, h, e => by
    have e2 : r[i]? = some (some t) := by simpa using e
    match q, h with
    | none, h => exact nvR_at (r := r) h e2
    | some (.d _), h => exact nvR_at (r := r) h e2
    | some (.v _), h => exact nvR_at (r := r) h e2
    | some (.sc _ _), h => exact nvR_at (r := r) h e2
    | some (.own _ _), h => exact nvR_at (r := r) h.2 e2
    | some (.tp _), h => exact nvR_at (r := r) h.2 e2
  | q :: r, 0, t, h, e => by
    have e2 : q = some t := by simpa using e
    subst e2
    refine ⟨fun a l k => ?_, fun l k => ?_⟩
    · subst k; exact h.1
    · subst k; exact h.1
def bor (r : Rho) : Rho := r.map borQ
theorem cto_bor (a : Addr) (r : Rho) : cto a (bor r) = 0 := by
  induction r with
  | nil => rfl
  | cons q r ih =>
    show cto a (borQ q :: bor r) = 0
    rw [cto_cons, ih]
    have z : ctq a (borQ q) = 0 := by
      match q with
      | none => rfl
      | some (.d _) => rfl
      | some (.v _) => rfl
      | some (.sc _ _) => rfl
      | some (.own b l) => rfl
      | some (.tp l) => rfl
    rw [z]
section
variable {K : PySem.W.Frag} {G Z Z' H H' : Hp} {ks : List T} {vs : List V} {r r' : Rho} {s : L2.St} {t : T} {v : V} {i : Nat} {a : Addr}
def lent (Z H : Hp) (ks : List T) (r : Rho) : Hp := fun a => if 0 < cts a ks + cto a r then H a else Z a
theorem S3.lentS (h : S3 K G Z H ks vs r s) : Sub Z (lent Z H ks r) := fun a o e => by
  unfold lent
  split
  · exact h.zh a o e
  · exact e
theorem S3.lend (h : S3 K G Z H ks vs r s) (nr : nvR r) : S3 K G (lent Z H ks r) H [] [] (bor r) s := by
  refine ⟨fun a o e => ?_, h.gh, fun a => ?_, fun a c => ?_, .nil, fun i t e => ?_, ?_⟩
  · unfold lent at e
    split at e
    · exact e
    · exact h.zh a o e
  · rw [cto_bor]; simp [cts]
  · rw [cto_bor] at c; simp [cts] at c
  · unfold bor at e
    rw [List.getElem?_map] at e
    cases q : r[i]? with
    | none => rw [q] at e; cases e
    | some x =>
      rw [q] at e
      have e2 : borQ x = some t := Option.some.inj e
      have lz : ∀ t', r[i]? = some (some t') → ∀ b, 0 < ct b t' → ∀ o, H b = some o → lent Z H ks r b = some o := fun t' e3 b hb o e4 => by
        have := cto_get b r i t' e3
        unfold lent
        rw [if_pos (by omega)]
        exact e4
      match x, e2 with
      | some (.d d), e2 =>
        cases e2
        obtain ⟨v, ev, rt⟩ := h.slot i _ q
        exact ⟨v, ev, rt_mono h.lentS _ _ (fun _ _ _ e => e) rt⟩
      | some (.v d), e2 =>
        cases e2
        obtain ⟨v, ev, rt⟩ := h.slot i _ q
        exact ⟨v, ev, rt_mono h.lentS _ _ (fun _ _ _ e => e) rt⟩
      | some (.sc _ _), e2 =>
        cases e2
        obtain ⟨v, ev, rt⟩ := h.slot i _ q
        exact ⟨v, ev, rt_mono h.lentS _ _ (fun _ _ _ e => e) rt⟩
      | some (.own b l), e2 =>
        cases e2
        obtain ⟨v, ev, rt⟩ := h.slot i _ q
        exact ⟨v, ev, .d (rt_fz h.lentS _ _ (by simpa [nv] using (nvR_at nr q).1 _ _ rfl) (lz _ q) rt)⟩
      | some (.tp l), e2 =>
        cases e2
        obtain ⟨v, ev, rt⟩ := h.slot i _ q
        exact ⟨v, ev, .d (rt_fz h.lentS _ _ (by simpa [nv] using (nvR_at nr q).2 _ rfl) (lz _ q) rt)⟩
  · unfold bor; rw [List.length_map]; exact h.len
def unlent (Z Z' : Hp) : Hp := fun a => match Z' a with | some (.lst _) => Z a | o => o
theorem unlent_t (Z Z' : Hp) : SubT Z' (unlent Z Z') := fun a o e n => by
  unfold unlent
  rw [e]
  split
  · rename_i xs q; cases q; exact absurd rfl (n xs)
  · rfl
theorem S3.unlend (h : S3 K G Z H ks vs r s) {ks' : List T} {vs' : List V} {r' : Rho} (g : Gr G (lent Z H ks r) Z') (h' : S3 K G Z' H' ks' vs' r' s) (lf : lfts ks' = true) : Gr G Z (unlent Z Z') ∧ S3 K G (unlent Z Z') H' (ks' ++ ks) (vs' ++ vs) r s := by
  have zz : Sub Z Z' := h.lentS.trans g.sub
  have ze : Sub Z (unlent Z Z') := fun a o e => by
    unfold unlent
    rw [zz a o e]
    split
    · exact e
    · rfl
  have at' : ∀ a, 0 < cts a ks + cto a r → ∀ o, H a = some o → Z' a = some o := fun a c o e => g.sub a o (by unfold lent; rw [if_pos c]; exact e)
  have nz : ∀ a, 0 < cts a ks + cto a r → unlent Z Z' a = none := fun a c => by
    obtain ⟨xs, e⟩ := h.owned c
    unfold unlent
    rw [at' a c _ e]
    exact (h.ow a c).1
  have own' : ∀ a, 0 < cts a ks' → cts a ks + cto a r = 0 := fun a c => by
    by_cases c2 : 0 < cts a ks + cto a r
    · obtain ⟨xs, e⟩ := h.owned c2
      have h1 := at' a c2 _ e
      have h2 := (h'.ow a (by omega)).1
      rw [h1] at h2; cases h2
    · omega
  refine ⟨⟨ze, fun a o e n => ?_⟩, ⟨fun a o e => ?_, h'.gh, fun a => ?_, fun a c => ?_, ?_, fun i t e => ?_, h.len⟩⟩
  · have c : ¬ 0 < cts a ks + cto a r := fun c => by
      have := (h.ow a c).2
      rw [e] at this; cases this
    have h1 : lent Z H ks r a = none := by unfold lent; rw [if_neg c]; exact n
    have h2 := g.out a o e h1
    unfold unlent
    rw [h2]
  · unfold unlent at e
    cases q : Z' a with
    | none => rw [q] at e; cases e
    | some u =>
      rw [q] at e
      split at e
      · exact h'.zh a o (zz a o e)
      · exact h'.zh a o (by rw [q]; exact e)
  · rw [cts_append]
    by_cases c : 0 < cts a ks'
    · have := own' a c
      have := h'.one a
      omega
    · have := h.one a
      omega
  · rw [cts_append] at c
    by_cases c2 : 0 < cts a ks'
    · have h1 := h'.ow a (by omega)
      refine ⟨?_, h1.2⟩
      unfold unlent
      rw [h1.1]
    · exact ⟨nz a (by omega), (h.ow a (by omega)).2⟩
  · have k1 := rts_lf (unlent_t Z Z') ks' vs' lf h'.stk
    have k2 := rts_mono (H' := H') ze ks vs (fun b hb o e => h'.zh b o (at' b (by omega) o e)) h.stk
    exact rts_app k1 k2
  · obtain ⟨v, ev, rt⟩ := h.slot i t e
    exact ⟨v, ev, rt_mono ze t v (fun b hb o e2 => h'.zh b o (at' b (by have := cto_get b r i t e; omega) o e2)) rt⟩
end
section
variable {X : Cx} {e : Expr} {t : TE3} {tt : TT3}
/-- an expression over lent lists -/
def xBor (t : TE3) : TE3 := fun r Q => nvR r ∧ t (bor r) fun x _ => lft x = true ∧ Q x r
def xBorT (t : TT3) : TT3 := fun r Q => nvR r ∧ t (bor r) fun b _ => Q b r
theorem p3_bor (h : P3 X e t) : P3 X e (xBor t) := by
  obtain ⟨te, he, sa⟩ := h.ex
  refine ⟨te, he, fun G Z H ks vs r s Q Q3 st ht k => sa G _ H [] [] (bor r) s _ _ (st.lend ht.1) ht.2 fun Z' H' x v r' g st' q => ?_⟩
  obtain ⟨g2, st2⟩ := st.unlend g st' (by simp [lfts, q.1])
  exact k _ H' x v r g2 st2 q.2
theorem t3_bor (h : T3 X e tt) : T3 X e (xBorT tt) := by
  obtain ⟨te, he, sa⟩ := h.ex
  refine ⟨te, he, fun G Z H ks vs r s Q Q3 st ht k => sa G _ H [] [] (bor r) s _ _ (st.lend ht.1) ht.2 fun Z' H' b r' g st' q => ?_⟩
  obtain ⟨g2, st2⟩ := st.unlend g st' rfl
  exact k _ H' b r g2 st2 q
end
end L3
namespace L3
open PySem PySem.Spec PyProof.Rows L2
/-! ### enumerate over a list -/
def enumD (l : List PyData) : List PyData := List.zipWith (fun (i : Nat) x => PyData.tuple [.int (i : Nat), x]) (List.range l.length) l
theorem enumD_len (l : List PyData) : (enumD l).length = l.length := by
  unfold enumD
  rw [List.length_zipWith, List.length_range, Nat.min_self]
theorem enumD_get {l : List PyData} {i : Nat} {x : PyData} (h : (enumD l)[i]? = some x) : ∃ y, l[i]? = some y ∧ x = .tuple [.int (i : Nat), y] := by
  unfold enumD at h
  rw [List.getElem?_zipWith] at h
  cases e2 : l[i]? with
  | none => rw [e2] at h; cases q : (List.range l.length)[i]? <;> rw [q] at h <;> cases h
  | some y =>
    have hi : i < l.length := (List.getElem?_eq_some_iff.mp e2).1
    rw [e2, List.getElem?_range hi] at h
    exact ⟨y, rfl, (Option.some.inj h).symm⟩
section
variable {X : Cx} {a : Expr} {ta : TE3} {p pos : Pos}
def xEnum (t : TE3) : TI3 := fun r R => t r fun x r' => match x with
  | .d (.list l) => R (enumD l) r'
  | _ => False
theorem i3_enum {tpos : Pos} {elts : List Expr} {kk : Nat} (hg : Gl X "enumerate") (hm : X.mg "enumerate" = none) (ha : R3 X a ta) (hs : starEach [a] X.env = [(false, eval a X.env)] := by rfl) (hs2 : starEach [a] X.env = (false, eval a X.env) :: starEach [] X.env := by rfl) :
    I3 X (.Tuple elts kk tpos) (.Call (.Name "enumerate" p) [a] [] pos) (xEnum ta) := by
  obtain ⟨te, ee, se⟩ := ha.ex
  refine ⟨_, pi_enum hg hm (pa_cons ee pa_nil hs2) hs, fun G Z H ks vs r s R Q3 st ht k => se G Z H ks vs r s _ _ st ht fun Z1 H1 x v r1 g1 st1 pv q => ?_⟩
  split at q
  · rename_i l
    cases (show Dq X.K Z1 v (.list l) from pv) with
    | @lst a1 xs _ hs1 ha1 =>
      refine ⟨a1, xs, rfl, SqL.of (st1.zh _ _ hs1), k Z1 H1 _ _ r1 g1 st1 (fun Z' H i z zh => ⟨fun x hx => ?_, fun hi => ?_⟩) q⟩
      · obtain ⟨y, e1, rfl⟩ := enumD_get hx
        obtain ⟨vy, f1, d1⟩ := dpa_get ha1 e1
        refine ⟨⟨xs, vy, SqL.of (zh _ _ (z _ _ hs1)), f1⟩, fun v' H' ⟨T0, x', h1, h2, h3, h4⟩ => .inr ⟨T0, _, h2, h3, ?_⟩⟩
        have i1 := h4 xs (SqL.of (zh _ _ (z _ _ hs1)))
        rw [f1] at i1; cases i1
        rw [h1]
        have s : Sub Z' (upd Z' T0 (.tup [.int (i : Nat), vy])) := fun a o e => by rw [upd_ne (fun q => by rw [q] at e; have := zh _ _ e; rw [h2] at this; cases this)]; exact e
        exact .tup upd_same (.cons (.int _) (.cons (dp_mono s _ _ (dp_mono z _ _ d1)) .nil))
      · exact ⟨xs, SqL.of (zh _ _ (z _ _ hs1)), by rw [← dpa_len ha1]; rw [enumD_len] at hi; exact hi⟩
  · exact q.elim
end
end L3
namespace L3
open PySem PySem.Spec PyProof.Rows L2
/-! ### texts -/
theorem dqa_strs {K : PySem.W.Frag} {Z : Hp} : ∀ (ys : List Str), DqAll K Z (ys.map V.str) (ys.map PyData.str)
  | [] => .nil
  | y :: ys => .cons (.str y) (dqa_strs ys)
theorem strs_dqa {K : PySem.W.Frag} {Z : Hp} : ∀ {ys : List Str} {xs : List V}, DqAll K Z xs (ys.map PyData.str) → xs = ys.map V.str
  | [], xs, h => by cases h; rfl
  | y :: ys, xs, h => by
    cases h with
    | cons h1 h2 =>
      cases h1
      rw [strs_dqa h2]
      rfl
theorem rts_strs {K : PySem.W.Frag} {Z H : Hp} : ∀ (ys : List Str), RTs K Z H (ys.map fun z => T.d (.str z)) (ys.map V.str)
  | [] => .nil
  | y :: ys => .cons (.d (.str y)) (rts_strs ys)
theorem strs_rts {K : PySem.W.Frag} {Z H : Hp} : ∀ {ys : List Str} {xs : List V}, RTs K Z H (ys.map fun z => T.d (.str z)) xs → xs = ys.map V.str
  | [], xs, h => by cases h; rfl
  | y :: ys, xs, h => by
    cases h with
    | cons h1 h2 =>
      cases h1 with
      | d h1 =>
        cases h1
        rw [strs_rts h2]
        rfl
theorem cts_strs (a : Addr) : ∀ (ys : List Str), cts a (ys.map fun z => T.d (.str z)) = 0
  | [] => rfl
  | y :: ys => by simp only [List.map_cons, cts, ct, cts_strs a ys]
section
variable {X : Cx} {o e : Expr} {ta tb : TE3} {pos apos : Pos}
/-- text.split(sep) -/
def xSplit (ta tb : TE3) : TE3 := fun r Q => ta r fun x r1 => asS x fun a => tb r1 fun y r2 => asS y fun b => (b.length == 0) = false ∧ a.length + 2 ≤ sizeLine ∧ ∀ p, Q (.own p ((Txt.split a b).map fun z => T.d (.str z))) r2
theorem p3_split (ha : R3 X o ta) (hb : R3 X e tb) (hs : starEach [e] X.env = [(false, eval e X.env)] := by rfl) (hbase : attributeBase o "split" X.env (eval o X.env) = eval o X.env := by rfl) (hline : (apos.endLine == pos.line) = true := by rfl) :
    P3 X (.Call (.Attribute o "split" apos) [e] [] pos) (xSplit ta tb) := by
  obtain ⟨te, ee, se⟩ := ha.ex
  obtain ⟨tf, ef, sf⟩ := hb.ex
  refine ⟨_, pe_split ee ef hs hbase hline, fun G Z H ks vs r s Q Q3 st ht k => se G Z H ks vs r s _ _ st ht fun Z1 H1 x v r1 g1 st1 pv q => ?_⟩
  obtain ⟨a, rfl, q⟩ := asS_of q
  refine ⟨⟨a, pv.str⟩, sf G Z1 H1 ks vs r1 s _ _ st1 q fun Z2 H2 y u r2 g2 st2 pv2 q => ?_⟩
  obtain ⟨b, rfl, q1, q2, q3⟩ := asS_of q
  refine ⟨a, b, pv.str, by rw [pv2.str], q1, q2, fun p hp => ?_⟩
  have st3 := st2.newD (dqa_strs (Txt.split a b)) hp
  rw [List.map_map] at st3
  exact k Z2 _ _ _ r2 (g1.trans g2) st3 (q3 p)
/-- sep.join(texts) -/
def asStrs (t : T) (k : List Str → Prop) : Prop := match t with
  | .d (.list l) => ∃ ys, l = ys.map PyData.str ∧ k ys
  | .own _ l => ∃ ys : List Str, (l = ys.map fun z => T.d (.str z)) ∧ k ys
  | _ => False
theorem asStrs_of {K : PySem.W.Frag} {G Z H : Hp} {ks : List T} {vs : List V} {r : Rho} {s : L2.St} {t : T} {v : V} {k : List Str → Prop} (h : asStrs t k) (st : S3 K G Z H ks vs r s) (p : Pv K Z r s t v) : ∃ a ys, v = .ref a ∧ SqL K H a (ys.map V.str) ∧ k ys := by
  unfold asStrs at h
  split at h
  · obtain ⟨ys, rfl, q⟩ := h
    cases (show Dq K Z v (.list _) from p) with
    | @lst a1 xs _ hs1 ha1 =>
      cases strs_dqa ha1
      exact ⟨a1, ys, rfl, SqL.of (st.zh _ _ hs1), q⟩
  · obtain ⟨ys, rfl, q⟩ := h
    cases p.now st with
    | own h1 h2 =>
      cases strs_rts h2
      exact ⟨_, ys, rfl, SqL.of h1, q⟩
  · exact h.elim
def xJoin (ta tb : TE3) : TE3 := fun r Q => ta r fun x r1 => asS x fun a => tb r1 fun y r2 => asStrs y fun ys => (ys.map (·.length)).sum + ys.length * a.length ≤ 16777216 ∧ Q (.d (.str (Txt.join a ys))) r2
theorem r3_join (ha : R3 X o ta) (hb : R3 X e tb) (hs : starEach [e] X.env = [(false, eval e X.env)] := by rfl) (hbase : attributeBase o "join" X.env (eval o X.env) = eval o X.env := by rfl) (hline : (apos.endLine == pos.line) = true := by rfl) :
    R3 X (.Call (.Attribute o "join" apos) [e] [] pos) (xJoin ta tb) := by
  obtain ⟨te, ee, se⟩ := ha.ex
  obtain ⟨tf, ef, sf⟩ := hb.ex
  refine ⟨_, pe_join ee ef hs hbase hline, fun G Z H ks vs r s Q Q3 st ht k => se G Z H ks vs r s _ _ st ht fun Z1 H1 x v r1 g1 st1 pv q => ?_⟩
  obtain ⟨a, rfl, q⟩ := asS_of q
  refine ⟨⟨a, pv.str⟩, sf G Z1 H1 ks vs r1 s _ _ st1 q fun Z2 H2 y u r2 g2 st2 pv2 q => ?_⟩
  obtain ⟨p, ys, rfl, hq, q1, q2⟩ := asStrs_of q st2 pv2
  exact ⟨a, p, ys, pv.str, rfl, .inl hq, q1, k Z2 H2 (.d (.str _)) _ r2 (g1.trans g2) st2 (Dq.str _) q2⟩
/-- a sign in a text -/
def cInS (g : Bool → Bool) : C2 := fun _ x y r Q => asS x fun w => asS y fun z => ∃ c, w = ⟨#[c]⟩ ∧ Q (.d (.bool (g (decide (c ∈ z.cps.toList))))) r
theorem con_inS (g : Bool → Bool) : Con2 X (fun x y H Q => ∃ (c : Nat) (z : Str), x = .str ⟨#[c]⟩ ∧ y = .str z ∧ Q (.bl (g (decide (c ∈ z.cps.toList)))) H) (cInS g) := fun G Z H ks vs r1 r s x y tx ty Q Q3 st px py hc k => by
  obtain ⟨w, rfl, hc1⟩ := asS_of hc
  obtain ⟨z, rfl, c, rfl, q⟩ := asS_of hc1
  have e1 : x = .str ⟨#[c]⟩ := by cases px.dat _ rfl; rfl
  exact ⟨c, z, e1, py.str, k Z H (.d (.bool _)) _ r (Gr.refl _ _) st (Dq.bl _) q⟩
abbrev kInS : C2 := cInS fun b => b
abbrev kNotInS : C2 := cInS fun b => !b
variable {a b : Expr}
theorem r3_inS (ha : R3 X a ta) (hb : R3 X b tb) (hm : behindInMarks .In b = false := by rfl) : R3 X (.Compare a [.In] [b] pos) (x2 kInS ta tb) := r3_cmp op_in_sign (con_inS fun b => b) ha hb hm
theorem r3_notinS (ha : R3 X a ta) (hb : R3 X b tb) (hm : behindInMarks .NotIn b = false := by rfl) : R3 X (.Compare a [.NotIn] [b] pos) (x2 kNotInS ta tb) := r3_cmp op_notIn_sign (con_inS fun b => !b) ha hb hm
theorem t3_inS (ha : R3 X a ta) (hb : R3 X b tb) (hm : behindInMarks .In b = false := by rfl) : T3 X (.Compare a [.In] [b] pos) (xTest (x2 kInS ta tb)) := t3_cmp op_in_sign (con_inS fun b => b) ha hb hm
theorem t3_notinS (ha : R3 X a ta) (hb : R3 X b tb) (hm : behindInMarks .NotIn b = false := by rfl) : T3 X (.Compare a [.NotIn] [b] pos) (xTest (x2 kNotInS ta tb)) := t3_cmp op_notIn_sign (con_inS fun b => !b) ha hb hm
theorem r3_glS {x : Str} {i : Str} (h : ∃ u, X.mg x = some u ∧ RelV (.str i) u) (hg : Gl X x) (hd : (x == ("__debug__" : Str)) = false := by decide) : R3 X (.Name x pos) (xC (.str i)) := by
  obtain ⟨u, hm, rv⟩ := h
  exact r3_globS hg hm rv hd
theorem r3_glI {x : Str} {i : Int} (h : ∃ u, X.mg x = some u ∧ RelV (.int i) u) (hg : Gl X x) (hd : (x == ("__debug__" : Str)) = false := by decide) : R3 X (.Name x pos) (xC (.int i)) := by
  obtain ⟨u, hm, rv⟩ := h
  exact r3_globI hg hm rv hd
end
end L3
namespace HT
open PySem PySem.Spec PyProof.Rows
section
variable {prog : Program} {w : World} {A : Around} {E : Value → Shared → Prop} {s : Shared}
theorem sliceApplied_rev {sl : Addr} {vs : Value} {n : Nat} {Q : Int × Int × Nat → Shared → Prop} (hs : s.heap.IsSliceOf sl .none .none vs) (ps : IsPart vs (some (-1)))
    (h : Q ((n : Int) - 1, -1, n) s) : wpAny (model prog w) A (Builtin.Slice.sliceApplied (.ref sl) (pure (n : Int))) Q E s := by
  obtain ⟨os, hos, hcs, hds⟩ := id hs
  unfold Builtin.Slice.sliceApplied Builtin.Slice.sliceFields
  refine wpAny_bind (wpAny_bind (wpAny_field hos hds (x := .none) rfl (wpAny_bind (wpAny_field hos hds (x := .none) rfl (wpAny_bind (wpAny_field hos hds (x := vs) rfl (wpAny_pure ?_)))))))
  refine wpAny_bind (slicePart_ ps ?_)
  show wpAny _ _ (if ((-1 : Int) == 0) = true then _ else _) _ _ s
  rw [if_neg (by decide)]
  refine wpAny_bind (slicePart_none (wpAny_bind (slicePart_none (wpAny_bind (wpAny_pure ?_)))))
  show wpAny _ _ (pure ((n : Int) - 1, (-1 : Int), Builtin.Slice.slicePlaces ((n : Int) - 1) (-1) (-1))) _ _ s
  have e : Builtin.Slice.slicePlaces ((n : Int) - 1) (-1) (-1) = n := by
    unfold Builtin.Slice.slicePlaces
    rw [if_neg (by decide)]
    by_cases c : (n : Int) - 1 > -1
    · rw [if_pos c, show (-(-1) : Int) = 1 by decide, Int.ediv_one]
      omega
    · rw [if_neg c]
      omega
  rw [e]
  exact wpAny_pure h
theorem fm_congr {α β : Type} {f g : α → Option β} : ∀ (l : List α), (∀ x ∈ l, f x = g x) → l.filterMap f = l.filterMap g
  | [], _ => rfl
  | x :: l, h => by
    have ih := fm_congr l fun y hy => h y (List.mem_cons_of_mem _ hy)
    have h0 := h x (by simp)
    rw [List.filterMap_cons, List.filterMap_cons, h0, ih]
theorem pick_rev (xs : Array Value) : ((List.range xs.size).filterMap fun (m : Nat) => xs[((xs.size : Int) - 1 + (m : Int) * -1).toNat]?).toArray = xs.toList.reverse.toArray := by
  have e : (List.range xs.size).filterMap (fun (m : Nat) => xs[((xs.size : Int) - 1 + (m : Int) * -1).toNat]?) = (List.range xs.size).filterMap ((fun k => xs[k]?) ∘ fun k => xs.size - 1 - k) := by
    refine fm_congr _ fun m hm => ?_
    have := List.mem_range.mp hm
    show xs[((xs.size : Int) - 1 + (m : Int) * -1).toNat]? = xs[xs.size - 1 - m]?
    rw [show ((xs.size : Int) - 1 + (m : Int) * -1).toNat = xs.size - 1 - m by omega]
  rw [e, ← List.filterMap_map, PySem.W.krv_range, List.filterMap_reverse, PySem.W.krv_all]
theorem getItem_tuple_rev {t sl : Addr} {items : Array Value} {vs : Value} {Q : Value → Shared → Prop} (ht : IsTup s.heap t items) (hs : s.heap.IsSliceOf sl .none .none vs) (ps : IsPart vs (some (-1)))
    (h : Q (.ref s.heap.objs.size) { s with heap := s.heap.push { cls := .type "tuple", data := .seq items.toList.reverse.toArray } })
    (hsz : items.size ≤ sizeLine) : wpAny (model prog w) A (getItem (.ref t) (.ref sl)) Q E s := by
  have htake : sizeOk (.seq items.toList.reverse.toArray) := by
    show items.toList.reverse.toArray.size ≤ sizeLine
    rw [List.size_toArray, List.length_reverse, Array.length_toList]
    exact hsz
  obtain ⟨os, hos, hcs, hds⟩ := id hs
  have hTs : s.TypeIs (.ref sl) "slice" := ⟨os, hos, hcs⟩
  unfold getItem
  try with_reducible refine wpAny_holding ?_
  first | refine wpAny_bind (wpAny_pure ?_) | skip
  refine wpAny_bind (wpAny_sequenceKey ht.typeIs (by decide) ?_)
  refine wpAny_bind (wpAny_callSpecial?_slot (name := Str.ofString "__getitem__") ht.typeIs PyProof.Rows.slot_tuple_getitem
    (wpAny_call_entry PyProof.Rows.slot_tuple_getitem ht.typeIs entry_tuple_getitem ?_ (args_tuple_getitem _ _)))
  show wpAny _ _ (Builtin.Tuple.tupleItemsOf (.ref t) >>= _) _ _ s
  refine wpAny_bind (tupleItemsOf_ ht ?_)
  refine wpAny_bind (wpAny_typeOf hTs ?_)
  rw [if_pos (by decide)]
  refine wpAny_bind (sliceApplied_rev hs ps ?_)
  have hno : ¬ ((((items.size : Int) - 1) == 0 && (-1 : Int) == 1 && items.size == items.size) = true) := by simp
  show wpAny _ _ (if (((items.size : Int) - 1) == 0 && (-1 : Int) == 1 && items.size == items.size) = true then _ else _) _ _ s
  rw [if_neg hno, pick_rev]
  first
    | exact wpAny_bind (m := Builtin.Tuple.tupleExact _) (wpAny_newObj_type (wpAny_pure ⟨_, rfl, wpAny_pure h⟩) htake)
    | exact wpAny_bind (m := Builtin.Tuple.tupleExact _) (wpAny_newObj_type (wpAny_bind (wpAny_pure (wpAny_pure ⟨_, rfl, wpAny_pure h⟩))) htake)
    | exact wpAny_bind (wpAny_bind (m := Builtin.Tuple.tupleExact _) (wpAny_newObj_type (wpAny_pure (wpAny_pure ⟨_, rfl, wpAny_pure h⟩)) htake))
    | exact wpAny_bind (wpAny_bind (m := Builtin.Tuple.tupleExact _) (wpAny_newObj_type (wpAny_pure ⟨_, rfl, wpAny_pure h⟩) htake))
end
end HT
namespace L3
open PySem PySem.Spec PyProof.Rows L2
/-- t[::-1] of a tuple -/
def tRevT (K : PySem.W.Frag) (te : TE) : TE := fun σ H Q => te σ H fun x H1 => ∃ a xs, x = .ref a ∧ SqT K H1 a xs ∧ ∀ p, H1 p = none → Q (.ref p) (upd H1 p (.tup xs.reverse))
section
variable {X : Cx}
theorem pe_revT {e : Expr} {te : TE} {k : Nat} {p1 p2 p3 pos : Pos} (he : PE X e te) : PE X (.Subscript e (.Slice none none (some (.UnaryOp .USub (.Constant (.int 1) k p1) p2)) p3) pos) (tRevT X.K te) := by
  refine ⟨fun pins s σ H Q I h => ?_⟩
  refine Subscript_ (thn (he.run pins s σ H _ I h) fun v s1 ⟨x, H1, I1, r1, q1⟩ => ?_)
  obtain ⟨a, xs, ex, hx, q⟩ := q1
  subst ex
  cases r1
  have hst : PO X (some (.UnaryOp .USub (.Constant (.int 1) k p1) p2)) (tPart (tUn (rU fun i => .int (-i)) (tC (.int 1)))) := po_some (pe_un un_neg pe_int)
  refine wpAny_Slice (thn (po_none.run pins s1 σ H1 (fun o H2 => o = none ∧ H2 = H1) I1 ⟨rfl, rfl⟩) fun vl s2 ⟨l, H2, I2, pl, el, e2⟩ => ?_)
  subst el e2
  refine thn (po_none.run pins s2 σ H2 (fun o H3 => o = none ∧ H3 = H2) I2 ⟨rfl, rfl⟩) fun vu s3 ⟨u, H3, I3, pu, eu, e3⟩ => ?_
  subst eu e3
  refine thn (hst.run pins s3 σ H3 (fun o H4 => o = some (-1) ∧ H4 = H3) I3 ⟨1, rfl, -1, rfl, rfl, rfl⟩) fun vs s4 ⟨o, H4, I4, ps, eo, e4⟩ => ?_
  subst eo e4
  cases pl
  cases pu
  have I5 : Inv X pins σ H4 { s4 with heap := s4.heap.push { cls := .type "slice", data := .fields #[.none, .none, vs] } } := I4.kept (t' := s4.toks) fun b ob q => Heap.get?_push_of_some _ q
  obtain ⟨its, r, ht, hz⟩ := I5.tuple hx
  have hlen := r.length
  show wpAny (model X.prog X.w) X.A (subscriptTail e (.Slice none none (some (.UnaryOp .USub (.Constant (.int 1) k p1) p2)) p3) (.ref a) (.ref s4.heap.objs.size)) (EP X pins σ Q) X.xe { s4 with heap := s4.heap.push { cls := .type "slice", data := .fields #[.none, .none, vs] } }
  refine tail_any (ops := [.ref a, .ref s4.heap.objs.size]) ht.typeIs (PyProof.Rows.slot_tuple_getitem.lookup) ?_ (by with_unfolding_all rfl)
  refine HT.getItem_tuple_rev ht (Heap.IsSliceOf.new _ .none .none vs) ps ?_ (by rw [List.size_toArray]; omega)
  refine ⟨.ref _, _, I5.laid (t' := s4.toks) (o := .tup xs.reverse) (fun b ob q => Heap.get?_push_of_some _ q) (Nat.le_refl _) ?_, rfl, q _ (I5.hok.fresh (Nat.le_refl _))⟩
  first
    | exact ⟨by rw [List.length_reverse]; exact hz, _, r.reverse, Heap.get?_push_size _ rfl⟩
    | exact ⟨by rw [List.length_reverse]; exact hz, _, 0, r.reverse, Heap.get?_push_size _ rfl⟩
    | exact ⟨by rw [List.length_reverse]; exact hz, _, r.reverse, IsTup.new _ _⟩
    | exact ⟨by rw [List.length_reverse]; exact hz, _, _, r.reverse, Heap.get?_push_size _ rfl⟩
    | trace_state
end
theorem dpa_rev {K : PySem.W.Frag} {Z : Hp} : ∀ {l : List PyData} {xs : List V}, DqAll K Z xs l → DqAll K Z xs.reverse l.reverse
  | [], xs, h => by cases h; exact .nil
  | x :: l, xs, h => by
    cases h with
    | cons h1 h2 =>
      rw [List.reverse_cons, List.reverse_cons]
      exact dpa_app (dpa_rev h2) (.cons h1 .nil)
section
variable {X : Cx} {e : Expr} {t : TE3} {pos : Pos}
def xRevT (t : TE3) : TE3 := fun r Q => t r fun x r' => match x with
  | .d (.tuple l) => Q (.d (.tuple l.reverse)) r'
  | _ => False
theorem p3_revT {k : Nat} {p1 p2 p3 : Pos} (h : R3 X e t) : P3 X (.Subscript e (.Slice none none (some (.UnaryOp .USub (.Constant (.int 1) k p1) p2)) p3) pos) (xRevT t) := by
  obtain ⟨te, he, sa⟩ := h.ex
  refine ⟨_, pe_revT he, fun G Z H ks vs r s Q Q3 st ht kk => sa G Z H ks vs r s _ _ st ht fun Z1 H1 x v r1 g1 st1 pv q => ?_⟩
  split at q
  · rename_i l
    cases (show Dq X.K Z1 v (.tuple l) from pv) with
    | @tup a1 xs _ hs1 ha1 =>
      refine ⟨a1, xs, rfl, SqT.of (st1.zh _ _ hs1), fun p hp => ?_⟩
      obtain ⟨g2, st2⟩ := st1.laidG (o := .tup xs.reverse) hp
      exact kk _ _ (.d (.tuple l.reverse)) _ r1 (g1.trans g2) (st2.pushD (.tup upd_same (dpa_mono g2.sub _ _ (dpa_rev ha1)))) q
  · exact q.elim
end
end L3
namespace L3
open PySem PySem.Spec PyProof.Rows L2
section
variable {X : Cx} {a b : Expr} {ta tb : TE3} {p p2 pos pos2 : Pos}
/-- list(range(a, b)) -/
def xLstR2 (ta tb : TE3) : TE3 := fun r Q => ta r fun x r1 => tb r1 fun y r2 => asI x fun i => asI y fun j => RgOk i j ∧ ∀ q, Q (.own q ((rangeI i (j - i).toNat).map T.d)) r2
theorem p3_listR2 (hc : X.calm = true) (hg : Gl X "list") (hm : X.mg "list" = none) (hg2 : Gl X "range") (hm2 : X.mg "range" = none) (ha : R3 X a ta) (hb : R3 X b tb)
    (na : starEach [a, b] X.env = (false, eval a X.env) :: starEach [b] X.env := by rfl) (nb : starEach [b] X.env = (false, eval b X.env) :: starEach [] X.env := by rfl) (hp : (backTo pos (starEach [b] X.env)).any (·.1) = false := by rfl)
    (ne : starEach [.Call (.Name "range" p2) [a, b] [] pos2] X.env = (false, eval (.Call (.Name "range" p2) [a, b] [] pos2) X.env) :: starEach [] X.env := by rfl) (hp2 : (backTo pos2 (starEach [b] X.env)).any (·.1) = false := by rfl) :
    P3 X (.Call (.Name "list" p) [.Call (.Name "range" p2) [a, b] [] pos2] [] pos) (xLstR2 ta tb) := by
  obtain ⟨te, ee, se⟩ := ha.ex
  obtain ⟨tf, ef, sf⟩ := hb.ex
  refine ⟨_, pe_listRg hc hg hm (prg_2 hg2 hm2 ee ef na nb hp2) ne, fun G Z H ks vs r s Q Q3 st ht k => se G Z H ks vs r s _ _ st ht fun Z1 H1 x v r1 g1 st1 pv qa => sf G Z1 H1 ks vs r1 s _ _ st1 qa fun Z2 H2 y u r2 g2 st2 pv2 qb => ?_⟩
  obtain ⟨i, rfl, qc⟩ := asI_of qb
  obtain ⟨j, rfl, q1, q2⟩ := asI_of qc
  have hd : DqAll X.K Z2 (rgV i j) (rangeI i (j - i).toNat) := by
    unfold rgV rangeI
    have : ∀ l : List Nat, DqAll X.K Z2 (l.map fun m => V.int (i + (m : Nat))) (l.map fun m => PyData.int (i + (m : Nat))) := by
      intro l
      induction l with
      | nil => exact .nil
      | cons m l ih => exact .cons (.int _) ih
    exact this _
  refine ⟨i, j, pv.int, pv2.int, q1, fun p hp => ?_⟩
  exact k Z2 _ _ _ r2 (g1.trans g2) (st2.newD hd hp) (q2 p)
end
end L3
/-! zip of two sequences, each a list or a tuple -/
namespace L3
open PySem PySem.Spec PyProof.Rows L2 RZ

/-- a sequence: a tuple (true) or a list (false) -/
def SqX (K : PySem.W.Frag) (b : Bool) (H : Hp) (a : Addr) (xs : List V) : Prop := match b with | true => SqT K H a xs | false => SqL K H a xs
def itOb (b : Bool) (a : Addr) : Obj := match b with | true => { cls := .type "tuple_iterator", data := .fields #[.ref a, .int 0 0] } | false => { cls := .type "list_iterator", data := .fields #[.ref a, .int 0 0] }
def ItIs (b : Bool) (h : Heap) (it a : Addr) (i : Nat) : Prop := match b with | true => h.IsTupleIter it a i | false => h.IsListIter it a i
def SeqIs (b : Bool) (h : Heap) (a : Addr) (xs : Array Value) : Prop := match b with | true => h.IsTuple a xs | false => h.IsList a xs
theorem ItIs.fields {b : Bool} {h : Heap} {it a : Addr} {i : Nat} (x : ItIs b h it a i) : ∃ o vs, h.get? it = some o ∧ o.data = .fields vs := by
  cases b with
  | true => obtain ⟨o, e, _, d⟩ := x; exact ⟨o, _, e, d⟩
  | false => obtain ⟨o, e, _, d⟩ := x; exact ⟨o, _, e, d⟩
theorem ItIs.at {b : Bool} {h h' : Heap} {it a : Addr} {i : Nat} (x : ItIs b h it a i) (k : ∀ o, h.get? it = some o → h'.get? it = some o) : ItIs b h' it a i := by
  cases b with
  | true => exact Heap.IsTupleIter.at x k
  | false => exact Heap.IsListIter.at x k
theorem drawsX {prog : Program} {w : World} {A : Around} (hh : A.handled = none) (b : Bool) (it l : Addr) (hne : l ≠ it) (items : Array Value) :
    Draws prog w A it [it, l] items.size (fun i v => items[i]? = some v) (fun i h => ItIs b h it l i ∧ SeqIs b h l items) := by
  cases b with
  | true => exact Draws.tuple hh it l hne items
  | false => exact Draws.list hh it l hne items
theorem drawsAt {prog : Program} {w : World} {A : Around} (hh : A.handled = none) (b : Bool) (it l : Addr) (hne : l ≠ it) (items : Array Value) (i : Nat) :
    ∃ n P St, Draws prog w A it [it, l] n P St ∧ i ≤ n ∧ (items.size ≤ i → i = n) ∧ ∀ h, ItIs b h it l i → SeqIs b h l items → St i h := by
  by_cases hi : items.size ≤ i
  · refine ⟨i, fun _ _ => True, fun j h => j = i ∧ ItIs b h it l i ∧ SeqIs b h l items, ⟨fun j h st => ?_, fun j h h' st hk => ?_, fun j s Q E hj st _ => absurd st.1 (Nat.ne_of_lt hj), fun s Q E st hE => ?_⟩, Nat.le_refl _, fun _ => rfl, fun h h1 h2 => ⟨rfl, h1, h2⟩⟩
    · obtain ⟨o, _, e, _⟩ := st.2.1.fields
      exact ⟨o, e⟩
    · refine ⟨st.1, st.2.1.at fun o e => hk it (by simp) o e, ?_⟩
      cases b with
      | true => exact Heap.IsTuple.at st.2.2 fun o e => hk l (by simp) o e
      | false => exact Heap.IsList.at st.2.2 fun o e => hk l (by simp) o e
    · cases b with
      | true => exact wpAny_nextOf_tuple_end hh st.2.1 st.2.2 (by simpa using hi) hE
      | false => exact wpAny_nextOf_list_end hh st.2.1 st.2.2 (by simpa using hi) hE
  · exact ⟨_, _, _, drawsX hh b it l hne items, by omega, fun h => absurd h hi, fun h h1 h2 => ⟨h1, h2⟩⟩
theorem beginsX (b : Bool) (l : Addr) (items : Array Value) : Begins (.ref l) (itOb b l) fun h => SeqIs b h l items := by
  cases b with
  | true => exact begins_tuple l items
  | false => exact begins_list l items
theorem itOb_is {b : Bool} {h : Heap} {it a : Addr} (e : h.get? it = some (itOb b a)) : ItIs b h it a 0 := by
  cases b with
  | true => exact ⟨_, e, rfl, rfl⟩
  | false => exact ⟨_, e, rfl, rfl⟩
theorem seqX {X : Cx} {pins : List (Addr × Obj)} {σ : L2.St} {H : Hp} {s : Shared} {b : Bool} {a : Addr} {xs : List V} (I : Inv X pins σ H s) (h : SqX X.K b H a xs) :
    ∃ its, Vals xs its ∧ SeqIs b s.heap a its.toArray ∧ a < s.heap.objs.size := by
  cases b with
  | true =>
    obtain ⟨its, rv, p, _⟩ := I.tuple h
    have p' : s.heap.IsTuple a its.toArray := p
    exact ⟨its, rv, p', by obtain ⟨o, ho, _⟩ := p'; exact Heap.lt_size ho⟩
  | false =>
    obtain ⟨its, rv, p, _⟩ := I.list h
    exact ⟨its, rv, p.isList, p.lt⟩
theorem seqX_inj {X : Cx} {pins : List (Addr × Obj)} {σ : L2.St} {H : Hp} {s : Shared} {b : Bool} {a : Addr} {xs ys : List V} (I : Inv X pins σ H s) (h : SqX X.K b H a xs) (k : SqX X.K b H a ys) : xs = ys := by
  cases b with
  | true => exact I.tuple_inj h k
  | false => exact I.list_inj h k

def ItzX (K : PySem.W.Frag) (p q : Bool) (a b : Addr) : It :=
  ⟨fun i H => ∃ (xs ys : List V) (x y : V), SqX K p H a xs ∧ SqX K q H b ys ∧ xs[i]? = some x ∧ ys[i]? = some y,
    fun i H v H' => ∃ T x y, v = .ref T ∧ H T = none ∧ H' = upd H T (.tup [x, y]) ∧ (∀ xs, SqX K p H a xs → xs[i]? = some x) ∧ ∀ ys, SqX K q H b ys → ys[i]? = some y,
    fun i H => ∃ xs ys : List V, SqX K p H a xs ∧ SqX K q H b ys ∧ (xs.length ≤ i ∨ ys.length ≤ i)⟩
theorem turn_zipX {P : Program} {w : World} {K : PySem.W.Frag} {elts : List Expr} {kk : Nat} {tpos : Pos} {p q : Bool} {a b z TI TO i1 i2 : Addr} (D : ZipSep2 z TI TO i1 i2 [i1, a] [i2, b]) (ne1 : a ≠ i1) (ne2 : b ≠ i2) :
    Turn P w K (.Tuple elts kk tpos) (ItzX K p q a b) [z, TI, TO, i1, i2] z (fun i h => IsZip h z TI TO .none ∧ IsPair h TI (.ref i1) (.ref i2) ∧ (∃ x y, IsPair h TO x y) ∧ ItIs p h i1 a i ∧ ItIs q h i2 b i) where
  mem := by simp
  obj := fun i h st c hc => by
    obtain ⟨hz, hTI, ⟨x, y, hTO⟩, h1, h2⟩ := st
    obtain ⟨o1, v1, e1, d1⟩ := h1.fields
    obtain ⟨o2, v2, e2, d2⟩ := h2.fields
    have e' : c = z ∨ c = TI ∨ c = TO ∨ c = i1 ∨ c = i2 := by simpa using hc
    rcases e' with q | q | q | q | q
    · rw [q]; exact ⟨_, hz, fun v q => nomatch q⟩
    · rw [q]; exact ⟨_, hTI, fun v q => nomatch q⟩
    · rw [q]; exact ⟨_, hTO, fun v q => nomatch q⟩
    · rw [q]; exact ⟨o1, e1, fun v q => by rw [d1] at q; cases q⟩
    · rw [q]; exact ⟨o2, e2, fun v q => by rw [d2] at q; cases q⟩
  keep := fun i h h' st k => by
    obtain ⟨hz, hTI, ⟨x, y, hTO⟩, h1, h2⟩ := st
    exact ⟨k z (by simp) _ hz, k TI (by simp) _ hTI, ⟨x, y, k TO (by simp) _ hTO⟩, h1.at fun o q => k i1 (by simp) o q, h2.at fun o q => k i2 (by simp) o q⟩
  item := by
    intro X hP hw hK hc i pins s σ H E I hf st hg
    subst hP hw hK
    obtain ⟨hz, hTI, ⟨x0, y0, hTO⟩, h1, h2⟩ := st
    obtain ⟨xs, ys, x, y, hqx, hqy, hx, hy⟩ := hg
    obtain ⟨its, rv, p1, _⟩ := seqX I hqx
    obtain ⟨its2, rv2, p2, _⟩ := seqX I hqy
    obtain ⟨u, hu, ru⟩ := rv.get hx
    obtain ⟨u2, hu2, ru2⟩ := rv2.get hy
    have hzl : z < s.heap.objs.size := Heap.lt_size hz
    have s1 : i < its.toArray.size := by have := (List.getElem?_eq_some_iff.mp hu).1; simpa using this
    have s2 : i < its2.toArray.size := by have := (List.getElem?_eq_some_iff.mp hu2).1; simpa using this
    refine wpAny_pyNext_zipD2_item D (drawsX (A := X.A.in1) (I.ok.hd hc) p i1 a ne1 its.toArray) (drawsX (A := X.A.in1) (I.ok.hd hc) q i2 b ne2 its2.toArray) hz hTI hTO ⟨h1, p1⟩ ⟨h2, p2⟩ s1 s2 fun w1 w2 h' tk y1 y2 z' TO' h1' h2' hT hsz hk => ?_
    have e1 : w1 = u := by
      have : its.toArray[i]? = some w1 := y1
      rw [List.getElem?_toArray, hu] at this
      cases this; rfl
    have e2 : w2 = u2 := by
      have : its2.toArray[i]? = some w2 := y2
      rw [List.getElem?_toArray, hu2] at this
      cases this; rfl
    subst e1 e2
    refine ⟨_, rfl, wpAny_letOwnedTupleGo_zip (s := { s with heap := h', toks := tk }) z' fun h'' z'' sb => ?_⟩
    have hT2 : h''.get? s.heap.objs.size = some { cls := .type "tuple", data := .seq #[w1, w2] } := (sb.2 _ (Nat.ne_of_gt hzl)).trans hT
    have new : ObjOk X.prog X.w (upd H s.heap.objs.size (.tup [x, y])) h'' s.heap.objs.size (.tup [x, y]) :=
      ⟨by show 2 ≤ sizeLine; decide, [w1, w2], .cons ru (.cons ru2 .nil), ⟨_, hT2, rfl, _, rfl⟩⟩
    have I1 : Inv X pins σ (upd H s.heap.objs.size (.tup [x, y])) { s with heap := h'', toks := tk } :=
      I.turnedNew (t' := tk) (ch := [z, TI, TO, i1, i2]) (fun c o hb q => (sb.2 c (fun q' => hb (by simp [q']))).trans (hk c o (fun q' => hb (by simp [q'])) (fun q' => hb (by simp [q'])) (fun q' => hb (by simp [q'])) (fun q' => hb (by simp [q'])) q)) hf (Nat.le_refl _) new
    refine ⟨.ref s.heap.objs.size, _, I1, rfl, ⟨_, x, y, rfl, I.hok.fresh (Nat.le_refl _), rfl, fun l hl => by rw [seqX_inj I hl hqx]; exact hx, fun l hl => by rw [seqX_inj I hl hqy]; exact hy⟩, ⟨z'', ?_, ⟨w1, w2, ?_⟩, ?_, ?_⟩, fun c hcm => ?_⟩
    · exact (sb.2 _ D.TIz).trans (hk _ _ D.TIz D.TITO D.TIi1 D.TIi2 hTI)
    · exact (sb.2 _ D.TOz).trans TO'
    · exact h1'.1.at fun o q => (sb.2 _ D.zi1.symm).trans q
    · exact h2'.1.at fun o q => (sb.2 _ D.zi2.symm).trans q
    · have hlt : c < s.heap.objs.size := by
        have e' : c = z ∨ c = TI ∨ c = TO ∨ c = i1 ∨ c = i2 := by simpa using hcm
        rcases e' with q | q | q | q | q
        · rw [q]; exact hzl
        · rw [q]; exact Heap.lt_size hTI
        · rw [q]; exact Heap.lt_size hTO
        · rw [q]; obtain ⟨_, _, e1, _⟩ := h1.fields; exact Heap.lt_size e1
        · rw [q]; obtain ⟨_, _, e2, _⟩ := h2.fields; exact Heap.lt_size e2
      rw [upd_ne (Nat.ne_of_lt hlt)]
      exact (hf c hcm).1
  done := by
    intro X hP hw hK hc i pins s σ H E I hf st hg
    subst hP hw hK
    obtain ⟨hz, hTI, ⟨x0, y0, hTO⟩, h1, h2⟩ := st
    obtain ⟨xs, ys, hqx, hqy, hend⟩ := hg
    obtain ⟨its, rv, p1, _⟩ := seqX I hqx
    obtain ⟨its2, rv2, p2, _⟩ := seqX I hqy
    have l1 := rv.length
    have l2 := rv2.length
    have z1 : its.toArray.size = its.length := by simp
    have z2 : its2.toArray.size = its2.length := by simp
    obtain ⟨n1, P1, St1, D1, a1, b1, c1⟩ := drawsAt (prog := X.prog) (w := X.w) (A := X.A.in1) (I.ok.hd hc) p i1 a ne1 its.toArray i
    obtain ⟨n2, P2, St2, D2, a2, b2, c2⟩ := drawsAt (prog := X.prog) (w := X.w) (A := X.A.in1) (I.ok.hd hc) q i2 b ne2 its2.toArray i
    exact wpAny_pyNext_zipD2_end D D1 D2 hz hTI hTO (c1 _ h1 p1) (c2 _ h2 p2) a1 a2 (hend.imp (fun q => b1 (by omega)) fun q => b2 (by omega)) fun h' tk hk => ⟨rfl, I.turnedL (t' := tk) (ch := [z, TI, TO, i1, i2]) (fun c o hb q =>
      hk c o (fun q' => hb (by simp [q'])) (fun q' => hb (by simp [q'])) (fun q' => hb (by simp [q'])) (fun q' => hb (by simp [q'])) q) hf⟩
  self := fun A i s Q E st h => wpAny_pyIter_zip st.1 h

def iZipX (K : PySem.W.Frag) (ta : TA) : TI := fun σ H R => ta σ H fun vs H1 => ∃ p q a b xs ys, vs = [.ref a, .ref b] ∧ SqX K p H1 a xs ∧ SqX K q H1 b ys ∧ R (ItzX K p q a b) H1
theorem pi_zipX {X : Cx} {e e2 : Expr} {ta : TA} {p pos tpos : Pos} {elts : List Expr} {kk : Nat} (hg : Gl X "zip") (hm : X.mg "zip" = none) (ha : PA X [e, e2] ta)
    (hs : starEach [e, e2] X.env = (false, eval e X.env) :: starEach [e2] X.env := by rfl) (hpl : (backTo pos (starEach [e2] X.env)).any (·.1) = false := by rfl) :
    PI X (.Tuple elts kk tpos) (.Call (.Name "zip" p) [e, e2] [] pos) (iZipX X.K ta) := by
  refine ⟨fun pins s σ H R I h => ?_⟩
  refine Call_ (ld_blt I hg hm PyProof.Rows.boot_zip (PyProof.Rows.callWith_type1 (thn (ha.run pos pins s σ H _ I h) fun us s1 ⟨vs, H1, I1, r1, q1⟩ => ?_) hs hpl))
  obtain ⟨p, q, a, b, xs, ys, ex, hqx, hqy, hq⟩ := q1
  subst ex
  cases r1 with
  | cons r rr =>
    cases rr with
    | cons r' rr =>
      cases rr
      cases r
      cases r'
      have fresh5 : ∀ c, c ∈ [s1.heap.objs.size + 4, s1.heap.objs.size + 2, s1.heap.objs.size + 3, s1.heap.objs.size, s1.heap.objs.size + 1] → FpOk X pins H1 c := fun c hcm => by
        have e' : c = s1.heap.objs.size + 4 ∨ c = s1.heap.objs.size + 2 ∨ c = s1.heap.objs.size + 3 ∨ c = s1.heap.objs.size ∨ c = s1.heap.objs.size + 1 := by simpa using hcm
        have hle : s1.heap.objs.size ≤ c := by
          rcases e' with z | z | z | z | z
          · rw [z]; exact Nat.le_add_right _ _
          · rw [z]; exact Nat.le_add_right _ _
          · rw [z]; exact Nat.le_add_right _ _
          · rw [z]; exact Nat.le_refl _
          · rw [z]; exact Nat.le_add_right _ _
        exact I1.fpOk hle (I1.hok.fresh hle)
      obtain ⟨its, rv, p1, lt1⟩ := seqX I1 hqx
      obtain ⟨its2, rv2, p2, lt2⟩ := seqX I1 hqy
      refine zip_begins2 (beginsX p a its.toArray) (beginsX q b its2.toArray) p1 p2 fun h' hz hTI hTO h1 h2 hsz hk => wpAny_pyIter_zip hz ?_
      have I2 : Inv X pins σ H1 { s1 with heap := h' } := I1.kept (t' := s1.toks) hk
      have lt1' : a < s1.heap.objs.size := lt1
      have lt2' : b < s1.heap.objs.size := lt2
      have n (m k : Nat) (h : m ≠ k := by omega) : s1.heap.objs.size + m ≠ s1.heap.objs.size + k := by omega
      have na (m : Nat) : a ≠ s1.heap.objs.size + m := fun z => by rw [z] at lt1'; exact absurd lt1' (Nat.not_lt.mpr (Nat.le_add_right _ _))
      have nb (m : Nat) : b ≠ s1.heap.objs.size + m := fun z => by rw [z] at lt2'; exact absurd lt2' (Nat.not_lt.mpr (Nat.le_add_right _ _))
      have sep : ZipSep2 (s1.heap.objs.size + 4) (s1.heap.objs.size + 2) (s1.heap.objs.size + 3) s1.heap.objs.size (s1.heap.objs.size + 1) [s1.heap.objs.size, a] [s1.heap.objs.size + 1, b] := {
        TIz := n 2 4
        TOz := n 3 4
        TITO := n 2 3
        TIi1 := n 2 0
        mem1 := by simp
        zf1 := fun h => by
          rcases List.mem_cons.mp h with h | h
          · exact n 4 0 (by omega) h
          · exact na 4 (List.mem_singleton.mp h).symm
        Tf1 := fun h => by
          rcases List.mem_cons.mp h with h | h
          · exact n 3 0 (by omega) h
          · exact na 3 (List.mem_singleton.mp h).symm
        TIi2 := n 2 1
        mem2 := by simp
        zf2 := fun h => by
          rcases List.mem_cons.mp h with h | h
          · exact n 4 1 (by omega) h
          · exact nb 4 (List.mem_singleton.mp h).symm
        Tf2 := fun h => by
          rcases List.mem_cons.mp h with h | h
          · exact n 3 1 (by omega) h
          · exact nb 3 (List.mem_singleton.mp h).symm
        sep1_2 := fun h => by
          rcases List.mem_cons.mp h with h | h
          · exact n 0 1 (by omega) h
          · exact nb 0 (List.mem_singleton.mp h).symm
        sep2_1 := fun h => by
          rcases List.mem_cons.mp h with h | h
          · exact n 1 0 (by omega) h
          · exact na 1 (List.mem_singleton.mp h).symm }
      exact ⟨s1.heap.objs.size + 4, [s1.heap.objs.size + 4, s1.heap.objs.size + 2, s1.heap.objs.size + 3, s1.heap.objs.size, s1.heap.objs.size + 1], _, _, H1, rfl, I2, turn_zipX sep (na 0) (nb 1), ⟨hz, hTI, ⟨_, _, hTO⟩, itOb_is h1, itOb_is h2⟩, fresh5, hq⟩

section
variable {X : Cx} {e a b : Expr} {ta tb : TE3} {p pos : Pos}
/-- what a sequence of data holds -/
def seqOf : T → Option (Bool × List PyData)
  | .d (.list l) => some (false, l)
  | .d (.tuple l) => some (true, l)
  | _ => none
def xZipX (ta tb : TE3) : TI3 := fun r R => ta r fun x r1 => tb r1 fun y r2 => ∃ l m, (seqOf x).map (·.2) = some l ∧ (seqOf y).map (·.2) = some m ∧ R (zipD l m) r2
theorem seqOf_sq {K : PySem.W.Frag} {Z : Hp} {r : Rho} {s : L2.St} {t : T} {v : V} {b : Bool} {l : List PyData} (h : seqOf t = some (b, l)) (p : Pv K Z r s t v) :
    ∃ a xs, v = .ref a ∧ (∀ Z', Sub Z Z' → SqX K b Z' a xs) ∧ DqAll K Z xs l := by
  unfold seqOf at h
  split at h
  · cases h
    have dx : Dq K Z v (.list l) := p
    cases dx with
    | lst hs ha => exact ⟨_, _, rfl, fun Z' z => SqL.of (z _ _ hs), ha⟩
  · cases h
    have dx : Dq K Z v (.tuple l) := p
    cases dx with
    | tup hs ha => exact ⟨_, _, rfl, fun Z' z => SqT.of (z _ _ hs), ha⟩
  · cases h
theorem i3_zipX {tpos : Pos} {elts : List Expr} {kk : Nat} (hg : Gl X "zip") (hm : X.mg "zip" = none) (ha : R3 X a ta) (hb : R3 X b tb) (hs : starEach [a, b] X.env = (false, eval a X.env) :: starEach [b] X.env := by rfl) (hs2 : starEach [b] X.env = (false, eval b X.env) :: starEach [] X.env := by rfl)
    (hpl : (backTo pos (starEach [b] X.env)).any (·.1) = false := by rfl) : I3 X (.Tuple elts kk tpos) (.Call (.Name "zip" p) [a, b] [] pos) (xZipX ta tb) := by
  obtain ⟨te, ee, se⟩ := ha.ex
  obtain ⟨tf, ef, sf⟩ := hb.ex
  refine ⟨_, pi_zipX hg hm (pa_cons ee (pa_cons ef pa_nil hs2) hs) hs hpl, fun G Z H ks vs r s R Q3 st ht k => se G Z H ks vs r s _ _ st ht fun Z1 H1 x v r1 g1 st1 pv qa => sf G Z1 H1 ks vs r1 s _ _ st1 qa fun Z2 H2 y u r2 g2 st2 pv2 q => ?_⟩
  have zl : ∀ (l m : List PyData) (i : Nat), (zipD l m).length ≤ i → l.length ≤ i ∨ m.length ≤ i := fun l m i h => by
    unfold zipD at h; rw [List.length_zipWith] at h; omega
  have zg : ∀ (l m : List PyData) (i : Nat) (x : PyData), (zipD l m)[i]? = some x → ∃ y z, l[i]? = some y ∧ m[i]? = some z ∧ x = .tuple [y, z] := fun l m i x h => by
    unfold zipD at h
    rw [List.getElem?_zipWith] at h
    cases e1 : l[i]? with
    | none => rw [e1] at h; cases h
    | some y =>
      cases e2 : m[i]? with
      | none => rw [e1, e2] at h; cases h
      | some z => rw [e1, e2] at h; exact ⟨y, z, rfl, rfl, (Option.some.inj h).symm⟩
  obtain ⟨l, m, e1, e2, q⟩ := q
  cases sx : seqOf x with
  | none => rw [sx] at e1; cases e1
  | some bl =>
    cases sy : seqOf y with
    | none => rw [sy] at e2; cases e2
    | some bm =>
      obtain ⟨b1, l'⟩ := bl
      obtain ⟨b2, m'⟩ := bm
      rw [sx] at e1; cases e1
      rw [sy] at e2; cases e2
      obtain ⟨a1, xs, rfl, hs1, ha1⟩ := seqOf_sq sx (pv.keep g2.sub)
      obtain ⟨a2, ys, rfl, hs2', ha2⟩ := seqOf_sq sy pv2
      refine ⟨b1, b2, a1, a2, xs, ys, rfl, hs1 _ st2.zh, hs2' _ st2.zh, k Z2 H2 _ _ r2 (g1.trans g2) st2 (fun Z' H i z zh => ⟨fun x hx => ?_, fun hi => ?_⟩) q⟩
      · obtain ⟨y, w, e1, e2, rfl⟩ := zg l' m' i x hx
        obtain ⟨vy, f1, d1⟩ := dpa_get ha1 e1
        obtain ⟨vw, f2, d2⟩ := dpa_get ha2 e2
        refine ⟨⟨xs, ys, vy, vw, hs1 _ (z.trans zh), hs2' _ (z.trans zh), f1, f2⟩, fun v' H' ⟨T0, x', y', h1, h2, h3, h4, h5⟩ => .inr ⟨T0, _, h2, h3, ?_⟩⟩
        have i1 := h4 xs (hs1 _ (z.trans zh))
        have i2 := h5 ys (hs2' _ (z.trans zh))
        rw [f1] at i1; cases i1
        rw [f2] at i2; cases i2
        rw [h1]
        have s : Sub Z' (upd Z' T0 (.tup [vy, vw])) := fun a o e => by rw [upd_ne (fun q => by rw [q] at e; have := zh _ _ e; rw [h2] at this; cases this)]; exact e
        exact .tup upd_same (.cons (dp_mono (z.trans s) _ _ d1) (.cons (dp_mono (z.trans s) _ _ d2) .nil))
      · exact ⟨xs, ys, hs1 _ (z.trans zh), hs2' _ (z.trans zh), by rw [← dpa_len ha1, ← dpa_len ha2]; exact zl l' m' i hi⟩
end
end L3
/-! t[::2] of a tuple of three -/
namespace HT
open PySem PySem.Spec PyProof.Rows
section
variable {prog : Program} {w : World} {A : Around} {E : Value → Shared → Prop} {s : Shared}
theorem sliceApplied_two {sl : Addr} {vs : Value} {Q : Int × Int × Nat → Shared → Prop} (hs : s.heap.IsSliceOf sl .none .none vs) (ps : IsPart vs (some 2))
    (h : Q (0, 2, 2) s) : wpAny (model prog w) A (Builtin.Slice.sliceApplied (.ref sl) (pure (3 : Int))) Q E s := by
  obtain ⟨os, hos, hcs, hds⟩ := id hs
  unfold Builtin.Slice.sliceApplied Builtin.Slice.sliceFields
  refine wpAny_bind (wpAny_bind (wpAny_field hos hds (x := .none) rfl (wpAny_bind (wpAny_field hos hds (x := .none) rfl (wpAny_bind (wpAny_field hos hds (x := vs) rfl (wpAny_pure ?_)))))))
  refine wpAny_bind (slicePart_ ps ?_)
  show wpAny _ _ (if ((2 : Int) == 0) = true then _ else _) _ _ s
  rw [if_neg (by decide)]
  refine wpAny_bind (slicePart_none (wpAny_bind (slicePart_none (wpAny_bind (wpAny_pure ?_)))))
  show wpAny _ _ (pure ((0 : Int), (2 : Int), Builtin.Slice.slicePlaces 0 3 2)) _ _ s
  rw [show Builtin.Slice.slicePlaces 0 3 2 = 2 by decide]
  exact wpAny_pure h
theorem getItem_tuple_two {t sl : Addr} {x y z : Value} {vs : Value} {Q : Value → Shared → Prop} (ht : IsTup s.heap t #[x, y, z]) (hs : s.heap.IsSliceOf sl .none .none vs) (ps : IsPart vs (some 2))
    (h : Q (.ref s.heap.objs.size) { s with heap := s.heap.push { cls := .type "tuple", data := .seq #[x, z] } }) : wpAny (model prog w) A (getItem (.ref t) (.ref sl)) Q E s := by
  have htake : sizeOk (.seq #[x, z]) := by
    show 2 ≤ sizeLine
    decide
  obtain ⟨os, hos, hcs, hds⟩ := id hs
  have hTs : s.TypeIs (.ref sl) "slice" := ⟨os, hos, hcs⟩
  unfold getItem
  try with_reducible refine wpAny_holding ?_
  first | refine wpAny_bind (wpAny_pure ?_) | skip
  refine wpAny_bind (wpAny_sequenceKey ht.typeIs (by decide) ?_)
  refine wpAny_bind (wpAny_callSpecial?_slot (name := Str.ofString "__getitem__") ht.typeIs PyProof.Rows.slot_tuple_getitem
    (wpAny_call_entry PyProof.Rows.slot_tuple_getitem ht.typeIs entry_tuple_getitem ?_ (args_tuple_getitem _ _)))
  show wpAny _ _ (Builtin.Tuple.tupleItemsOf (.ref t) >>= _) _ _ s
  refine wpAny_bind (tupleItemsOf_ ht ?_)
  refine wpAny_bind (wpAny_typeOf hTs ?_)
  rw [if_pos (by decide)]
  refine wpAny_bind (sliceApplied_two hs ps ?_)
  show wpAny _ _ (if (((0 : Int)) == 0 && (2 : Int) == 1 && (2 : Nat) == 3) = true then _ else _) _ _ s
  rw [if_neg (by decide)]
  have e : ((List.range 2).filterMap fun (m : Nat) => (#[x, y, z] : Array Value)[((0 : Int) + (m : Int) * 2).toNat]?).toArray = #[x, z] := rfl
  rw [e]
  first
    | exact wpAny_bind (m := Builtin.Tuple.tupleExact _) (wpAny_newObj_type (wpAny_pure ⟨_, rfl, wpAny_pure h⟩) htake)
    | exact wpAny_bind (m := Builtin.Tuple.tupleExact _) (wpAny_newObj_type (wpAny_bind (wpAny_pure (wpAny_pure ⟨_, rfl, wpAny_pure h⟩))) htake)
    | exact wpAny_bind (wpAny_bind (m := Builtin.Tuple.tupleExact _) (wpAny_newObj_type (wpAny_pure (wpAny_pure ⟨_, rfl, wpAny_pure h⟩)) htake))
    | exact wpAny_bind (wpAny_bind (m := Builtin.Tuple.tupleExact _) (wpAny_newObj_type (wpAny_pure ⟨_, rfl, wpAny_pure h⟩) htake))
end
end HT
namespace L3
open PySem PySem.Spec PyProof.Rows L2
def tTwoT (K : PySem.W.Frag) (te : TE) : TE := fun σ H Q => te σ H fun x H1 => ∃ a u v w, x = .ref a ∧ SqT K H1 a [u, v, w] ∧ ∀ p, H1 p = none → Q (.ref p) (upd H1 p (.tup [u, w]))
section
variable {X : Cx}
theorem pe_twoT {e : Expr} {te : TE} {k : Nat} {p1 p3 pos : Pos} (he : PE X e te) : PE X (.Subscript e (.Slice none none (some (.Constant (.int 2) k p1)) p3) pos) (tTwoT X.K te) := by
  refine ⟨fun pins s σ H Q I h => ?_⟩
  refine Subscript_ (thn (he.run pins s σ H _ I h) fun v s1 ⟨x, H1, I1, r1, q1⟩ => ?_)
  obtain ⟨a, u0, v0, w0, ex, hx, q⟩ := q1
  subst ex
  cases r1
  have hst : PO X (some (.Constant (.int 2) k p1)) (tPart (tC (.int 2))) := po_some pe_int
  refine wpAny_Slice (thn (po_none.run pins s1 σ H1 (fun o H2 => o = none ∧ H2 = H1) I1 ⟨rfl, rfl⟩) fun vl s2 ⟨l, H2, I2, pl, el, e2⟩ => ?_)
  subst el e2
  refine thn (po_none.run pins s2 σ H2 (fun o H3 => o = none ∧ H3 = H2) I2 ⟨rfl, rfl⟩) fun vu s3 ⟨u, H3, I3, pu, eu, e3⟩ => ?_
  subst eu e3
  refine thn (hst.run pins s3 σ H3 (fun o H4 => o = some 2 ∧ H4 = H3) I3 ⟨2, rfl, rfl, rfl⟩) fun vs s4 ⟨o, H4, I4, ps, eo, e4⟩ => ?_
  subst eo e4
  cases pl
  cases pu
  have I5 : Inv X pins σ H4 { s4 with heap := s4.heap.push { cls := .type "slice", data := .fields #[.none, .none, vs] } } := I4.kept (t' := s4.toks) fun b ob q => Heap.get?_push_of_some _ q
  obtain ⟨its, r, ht, hz⟩ := I5.tuple hx
  cases r with
  | cons r1 r =>
    cases r with
    | cons r2 r =>
      cases r with
      | cons r3 r =>
        cases r
        show wpAny (model X.prog X.w) X.A (subscriptTail e (.Slice none none (some (.Constant (.int 2) k p1)) p3) (.ref a) (.ref s4.heap.objs.size)) (EP X pins σ Q) X.xe { s4 with heap := s4.heap.push { cls := .type "slice", data := .fields #[.none, .none, vs] } }
        refine tail_any (ops := [.ref a, .ref s4.heap.objs.size]) ht.typeIs (PyProof.Rows.slot_tuple_getitem.lookup) ?_ (by with_unfolding_all rfl)
        refine HT.getItem_tuple_two ht (Heap.IsSliceOf.new _ .none .none vs) ps ?_
        refine ⟨.ref _, _, I5.laid (t' := s4.toks) (o := .tup [u0, w0]) (fun b ob q => Heap.get?_push_of_some _ q) (Nat.le_refl _) ?_, rfl, q _ (I5.hok.fresh (Nat.le_refl _))⟩
        have z2 : [u0, w0].length ≤ sizeLine := by show 2 ≤ sizeLine; decide
        first
          | exact ⟨z2, _, .cons r1 (.cons r3 .nil), Heap.get?_push_size _ rfl⟩
          | exact ⟨z2, _, 0, .cons r1 (.cons r3 .nil), Heap.get?_push_size _ rfl⟩
          | exact ⟨z2, _, .cons r1 (.cons r3 .nil), IsTup.new _ _⟩
          | exact ⟨z2, _, _, .cons r1 (.cons r3 .nil), Heap.get?_push_size _ rfl⟩
          | trace_state
end
section
variable {X : Cx} {e : Expr} {t : TE3} {pos : Pos}
def xTwoT (t : TE3) : TE3 := fun r Q => t r fun x r' => match x with
  | .d (.tuple [a, _, c]) => Q (.d (.tuple [a, c])) r'
  | _ => False
theorem p3_twoT {k : Nat} {p1 p3 : Pos} (h : R3 X e t) : P3 X (.Subscript e (.Slice none none (some (.Constant (.int 2) k p1)) p3) pos) (xTwoT t) := by
  obtain ⟨te, he, sa⟩ := h.ex
  refine ⟨_, pe_twoT he, fun G Z H ks vs r s Q Q3 st ht kk => sa G Z H ks vs r s _ _ st ht fun Z1 H1 x v r1 g1 st1 pv q => ?_⟩
  split at q
  · rename_i a b c
    cases (show Dq X.K Z1 v (.tuple [a, b, c]) from pv) with
    | @tup a1 xs _ hs1 ha1 =>
      cases ha1 with
      | @cons v1 _ _ _ d1 ha1 =>
        cases ha1 with
        | @cons v2 _ _ _ d2 ha1 =>
          cases ha1 with
          | @cons v3 _ _ _ d3 ha1 =>
            cases ha1
            refine ⟨a1, v1, v2, v3, rfl, SqT.of (st1.zh _ _ hs1), fun p hp => ?_⟩
            obtain ⟨g2, st2⟩ := st1.laidG (o := .tup [v1, v3]) hp
            exact kk _ _ (.d (.tuple [a, c])) _ r1 (g1.trans g2) (st2.pushD (.tup upd_same (.cons (dp_mono g2.sub _ _ d1) (.cons (dp_mono g2.sub _ _ d3) .nil)))) q
  · exact q.elim
end
end L3
set_option maxHeartbeats 1000000
/-! exceptions: raised, let out, caught and kept as values -/
namespace L3
open PySem PySem.Spec PyProof.Rows L2

/-! ### a def that may raise -/
section
variable {P : Program} {w : World} {K : PySem.W.Frag} {mg : Str → Option Value} {base : Heap}
theorem ok3X {x qual : Str} {st : Stmt} {f : Addr} {fd : FuncData} {N ps : List Str} {k : Nat} {sp : Sp3} (F : Fun K x qual st f fd) (S : FnScope N ps (defScope st)) (len : ∀ ts Q E, sp ts Q E → ts.length = ps.length)
    (hbody : ∀ (cdv : Value) (A : Around) (outer : List Env) (s : Shared) (H : Hp) (E : XK), Room k (A.deeper (envOfC qual (defScope st) s.heap.objs.size f cdv)) →
      ∃ t, B3 (cxOf (L2.CX P w) P w K mg base N qual (defScope st) f cdv A outer s H E) (defBody st) t ∧ ∀ ts Q3 E3, sp ts Q3 E3 → t { nx := fun r => finOk ts r ∧ Q3 (.d .none) (finF ts r), rt := fun x r => finOk ts r ∧ Q3 x (finF ts r), ex := fun C r => finOk ts r ∧ E3 C (finF ts r) } (start3 N ts)) :
    FnOk P w K mg base (L2.CX P w) (k + 1) f fd ps (lift K sp) := by
  refine F.okX S (fun vs H Q E h => ?_) (fun cdv A outer s H vs Q E hr h => ?_)
  · obtain ⟨G, Z, ts, Q3, E3, st, hsp, _⟩ := h
    rw [← rts_len st.stk]
    exact len _ _ _ hsp
  · obtain ⟨G, Z, ts, Q3, E3, st, hsp, hq, hx⟩ := h
    obtain ⟨t, hB, ht⟩ := hbody cdv A outer s H E hr
    obtain ⟨te, eb, sb⟩ := hB.ex _ (takes_of rfl rfl rfl rfl)
    have ret : ∀ Z' H' r' s' x v, Gr G Z Z' → S3 K G Z' H' [x] [v] r' s' → (finOk ts r' ∧ Q3 x (finF ts r')) → Q v H' := fun Z' H' r' s' x v g st' q => by
      refine hq Z' H' x v (finF ts r') g ⟨st'.zh, st'.gh, fun a => ?_, fun a c => st'.ow a ?_, .cons st'.top (rts_fin g.sub ts vs r' s' st.stk q.1 st'.len st'.slot), fun i t e => by simp at e, rfl⟩ q.2
      · have h1 := st'.one a
        have h2 := cto_fin a ts r' q.1
        simp only [cts, cto] at *
        omega
      · have h2 := cto_fin a ts r' q.1
        simp only [cts, cto] at *
        omega
    have out : ∀ Z' H' r' s' C, Gr G Z Z' → S3 K G Z' H' [] [] r' s' → (finOk ts r' ∧ E3 C (finF ts r')) → E (.ref C) none H' := fun Z' H' r' s' C g st' q => by
      refine hx Z' H' C (finF ts r') g ⟨st'.zh, st'.gh, fun a => ?_, fun a c => st'.ow a ?_, rts_fin g.sub ts vs r' s' st.stk q.1 st'.len st'.slot, fun i t e => by simp at e, rfl⟩ q.2
      · have h1 := st'.one a
        have h2 := cto_fin a ts r' q.1
        simp only [cts, cto] at *
        omega
      · have h2 := cto_fin a ts r' q.1
        simp only [cts, cto] at *
        omega
    exact ⟨te, eb, sb G Z H _ _ _ _ (start_st st) (ht ts Q3 E3 hsp) ⟨fun Z' H' r' s' g st' q => ret Z' H' r' s' _ _ g (st'.pushD .non) q, fun Z' H' r' s' x v g st' q => ret Z' H' r' s' x v g st' q, fun _ _ _ _ _ _ q => q.elim, fun _ _ _ _ _ _ q => q.elim, fun Z' H' C r' s' g st' q => out Z' H' r' s' C g st' q⟩⟩
/-- a def of the module that may raise, by its name -/
def CalX (P : Program) (w : World) (K : PySem.W.Frag) (mg : Str → Option Value) (base : Heap) (x : Str) (k : Nat) (ps : List Str) (sp : Sp3) : Prop :=
  ∃ f fd, FnOk P w K mg base (L2.CX P w) k f fd ps (lift K sp) ∧ mg x = some (.ref f) ∧ PySem.W.keepIn K (.ref f) = true ∧ Binds K fd ps []
theorem CalX.mono {x : Str} {j k : Nat} {ps : List Str} {sp : Sp3} (c : CalX P w K mg base x j ps sp) (h : j ≤ k) : CalX P w K mg base x k ps sp := by
  obtain ⟨f, fd, F, hm, hk, hb⟩ := c
  exact ⟨f, fd, ⟨F.len, fun A outer s H args us vs Q E hr => F.run A outer s H args us vs Q E (hr.mono h)⟩, hm, hk, hb⟩
end
section
variable {X : Cx} {es : List Expr} {e : Expr} {u : TC3} {pos p : Pos} {sp : Sp3} {k j : Nat} {ps : List Str} {x : Str} {t ta : TE3}
/-- .. called where it raises nothing -/
theorem p3_calN {sp' : Sp3} (c : CalX X.prog X.w X.K X.mg X.base x k ps sp) (hw : ∀ ts Q, sp' ts Q xNoE → sp ts Q xNoE) (hr : Room k X.A) (hg : Gl X x) (hu : C3 X (e :: es) u)
    (hdb : (x == ("__debug__" : Str)) = false := by decide) (he : starEach (e :: es) X.env = (false, eval e X.env) :: starEach es X.env := by rfl) (hpl : (backTo pos (starEach es X.env)).any (·.1) = false := by rfl) :
    P3 X (.Call (.Name x p) (e :: es) [] pos) (xCall sp' xNoE u) := by
  obtain ⟨f, fd, F, hm, hk, hb⟩ := c
  obtain ⟨te, ea, sa⟩ := hu.ex
  refine ⟨_, pe_call F hr hg hm hk hb .nil passL ea hdb he hpl, fun G Z H ks vs r s Q Q3 st ht kk => sa G Z H ks vs r s _ _ st ht fun Z1 H1 as us r1 g1 st1 hp q => ?_⟩
  rw [List.append_nil]
  refine call_run (E3 := xNoE) st1 hp ?_ (fun Z' H' x v r' g => kk Z' H' x v r' (g1.trans g)) fun _ _ _ _ _ _ _ _ z => z.elim
  split at q
  · exact ⟨q.1, hw _ _ q.2⟩
  · exact q.elim
/-! ### .. where it may raise -/
abbrev TX3 := Rho → (T → Rho → Prop) → (Addr → Rho → Prop) → Prop
structure P3W (X : Cx) (e : Expr) (t : TX3) : Prop where
  ex : ∀ W : WX, Takes X W → ∃ te : TE, PE X e te ∧ ∀ (G Z H : Hp) (ks : List T) (vs : List V) (r : Rho) (s : L2.St) (Q : VK) (Q3 : T → Rho → Prop) (E3 : Addr → Rho → Prop), S3 X.K G Z H ks vs r s → t r Q3 E3 →
    (∀ Z' H' x v r', Gr G Z Z' → S3 X.K G Z' H' (x :: ks) (v :: vs) r' s → Q3 x r' → Q v H') →
    (∀ Z' H' C r', Gr G Z Z' → S3 X.K G Z' H' ks vs r' s → E3 C r' → W (.ref C) none s H') → te s H Q
def xCallX (sp : Sp3) (u : TC3) : TX3 := fun r Q E => u r fun as r1 => match looks r1 as with
  | some ts => (ios as).Nodup ∧ sp ts (fun x ts' => Q x (puts r1 as ts')) (fun C ts' => E C (puts r1 as ts'))
  | none => False
theorem callx_run {G Z H : Hp} {ks : List T} {vs : List V} {r : Rho} {s : L2.St} {as : List Arg} {us : List V} {Q : VK} {E : XK} {Q3 : T → Rho → Prop} {E3 : Addr → Rho → Prop} (st : S3 X.K G Z H ks vs r s) (hp : Paired (ArgOk X.K Z s) as us)
    (h : match looks r as with | some ts => (ios as).Nodup ∧ sp ts (fun x ts' => Q3 x (puts r as ts')) (fun C ts' => E3 C (puts r as ts')) | none => False)
    (kq : ∀ Z' H' x v r', Gr G Z Z' → S3 X.K G Z' H' (x :: ks) (v :: vs) r' s → Q3 x r' → Q v H')
    (ke : ∀ Z' H' C r', Gr G Z Z' → S3 X.K G Z' H' ks vs r' s → E3 C r' → E (.ref C) none H') : lift X.K sp us H Q E := by
  refine call_run (E3 := fun C ts' => E3 C (puts r as ts')) st hp h kq fun Z' H' C ts' r' g st' e q => ?_
  subst e
  exact ke Z' H' C _ g st' q
theorem p3w_cal (c : CalX X.prog X.w X.K X.mg X.base x k ps sp) (hr : Room k X.A) (hg : Gl X x) (hu : C3 X (e :: es) u)
    (hdb : (x == ("__debug__" : Str)) = false := by decide) (he : starEach (e :: es) X.env = (false, eval e X.env) :: starEach es X.env := by rfl) (hpl : (backTo pos (starEach es X.env)).any (·.1) = false := by rfl) :
    P3W X (.Call (.Name x p) (e :: es) [] pos) (xCallX sp u) := by
  refine ⟨fun W tk => ?_⟩
  obtain ⟨f, fd, F, hm, hk, hb⟩ := c
  obtain ⟨te, ea, sa⟩ := hu.ex
  refine ⟨_, pe_callS F hr hg hm hk hb (fun σ => passAt tk σ) ea hdb he hpl, fun G Z H ks vs r s Q Q3 E3 st ht kk ke => sa G Z H ks vs r s _ _ st ht fun Z1 H1 as us r1 g1 st1 hp q => ?_⟩
  exact callx_run st1 hp q (fun Z' H' x v r' g => kk Z' H' x v r' (g1.trans g)) fun Z' H' C r' g => ke Z' H' C r' (g1.trans g)
end
section
variable {X : Cx} {st : Stmt} {rest body : List Stmt} {t u : TS3} {e : Expr} {te : TX3} {tt : TT3} {pos : Pos}
def xDropX (te : TX3) : TS3 := fun D r => te r (fun _ r' => D.nx r') D.ex
theorem m3_exprX (h : P3W X e te) (hs : swapsWith e none pos.line X.env = pure false := by rfl) : M3 X (.Expr e pos) (xDropX te) := by
  refine ⟨fun W tk => ?_⟩
  obtain ⟨tea, ea, sa⟩ := h.ex W tk
  exact ⟨_, ps_expr ea hs, fun G Z H r s D D3 st ht im => sa G Z H [] [] r s _ _ _ st ht (fun Z' H' x v r' g st' q => im.nx Z' H' r' s g st'.pop q) fun Z' H' C r' g st' q => im.ex Z' H' C r' s g st' q⟩
def xRetX (te : TX3) : TS3 := fun D r => te r D.rt D.ex
theorem m3_retX (h : P3W X e te) : M3 X (.Return (some e) pos) (xRetX te) := by
  refine ⟨fun W tk => ?_⟩
  obtain ⟨tea, ea, sa⟩ := h.ex W tk
  exact ⟨_, ps_ret ea, fun G Z H r s D D3 st ht im => sa G Z H [] [] r s _ _ _ st ht (fun Z' H' x v r' g st' q => im.rt Z' H' r' s x v g st' q) fun Z' H' C r' g st' q => im.ex Z' H' C r' s g st' q⟩
def xAsgX (t : TX3) (g : TG3) : TS3 := fun D r => t r (fun x r' => g x r' D.nx) D.ex
theorem m3_asgX {tg : Expr} {js : List Nat} {g : TG3} (he : P3W X e te) (hg : G3 X tg js g) (hs : swapsWithSole [tg] e pos.line X.env = pure false := by rfl) (hw : swappedStores [tg] e X.env = pure none := by rfl)
    (h1 : (assignEach [tg] X.env).map (·.2) = [assign tg X.env] := by rfl) : M3 X (.Assign [tg] e pos) (xAsgX te g) := by
  refine ⟨fun W tk => ?_⟩
  obtain ⟨tee, ee, se⟩ := he.ex W tk
  obtain ⟨tg', eg, sg⟩ := hg.ex
  exact ⟨_, ps_asg ee eg hs hw h1, fun G Z H r s D D3 st ht im => se G Z H [] [] r s _ _ _ st ht (fun Z1 H1 x v r1 g1 st1 q => sg G Z1 H1 [] [] r1 s x v _ _ st1 q fun Z2 H2 r2 s2 g2 st2 _ _ q2 => im.nx Z2 H2 r2 s2 (g1.trans g2) st2 q2) fun Z' H' C r' g st' q => im.ex Z' H' C r' s g st' q⟩
/-- raise X('m') -/
def xRaise (C : Addr) : TS3 := fun D r => D.ex C r
theorem m3_raise {C : Addr} (hc : X.calm = true) (he : PMk X e fun _ H Q => Q (.ref C) none H) : M3 X (.Raise (some e) none pos) (xRaise C) :=
  ⟨fun W tk => ⟨_, ps_raise hc tk he, fun G Z H r s D D3 st ht im => im.ex Z H C r s (Gr.refl _ _) st ht⟩⟩
/-- a block that raises nothing, in one that may -/
def xNox (t : TS3) : TS3 := fun D r => t { D with ex := fun _ _ => False } r
theorem b3_nox {sts : List Stmt} (h : B3 X.nox sts t) : B3 X sts (xNox t) := by
  refine ⟨fun W tk => ?_⟩
  obtain ⟨te, ea, sa⟩ := h.ex _ takes0
  exact ⟨te, ea.nox, fun G Z H r s D D3 st ht im => sa G Z H r s D _ st ht ⟨im.nx, im.rt, im.bk, im.ct, fun _ _ _ _ _ _ _ q => q.elim⟩⟩
end
end L3
set_option maxHeartbeats 1000000
/-! try: .. except X as e: .. : the caught one is kept as a value -/
namespace L3
open PySem PySem.Spec PyProof.Rows L2
/-- an exception of the class C at a, tracked -/
def ExV (C a : Addr) : HO := .ext fun h => ∃ (oe : Obj) (vs : Array Value), h.get? a = some oe ∧ Zc (.ref C) none oe ∧ oe.data = .fields vs
theorem exV_is (C a : Addr) : IsExc C a (ExV C a) := ⟨_, rfl, fun _ h => h⟩
theorem exO_is (C a : Addr) : IsExc C a (ExO (.ref C) a) := ⟨_, rfl, fun h ⟨oe, vs, e, z, d, _⟩ => ⟨oe, vs, e, z, d⟩⟩
theorem exV_ok {P : Program} {w : World} {H : Hp} {h : Heap} {C a : Addr} {oe : Obj} {vs : Array Value} (e : h.get? a = some oe) (z : Zc (.ref C) none oe) (d : oe.data = .fields vs) : ObjOk P w H h a (ExV C a) :=
  ⟨⟨oe, vs, e, z, d⟩, ⟨oe, e⟩, fun _ _ ⟨o, v, q, r⟩ k => ⟨o, v, k o q, r⟩⟩
section
variable {X : Cx} {pins : List (Addr × Obj)} {σ : L2.St} {H : Hp} {s : Shared}
/-- an object that is there and was not at the entry is tracked from now on -/
theorem adopt {a : Addr} {o : HO} (I : Inv X pins σ H s) (na : H a = none) (n0 : X.s_0.heap.get? a = none) (nL : a ≠ X.env.locals) (nC : ∀ v, ¬ s.heap.IsCell a v) (np : ∀ p ∈ X.pn ++ pins, p.1 ≠ a) (new : ObjOk X.prog X.w (upd H a o) s.heap a o) : Inv X pins σ (upd H a o) s := by
  have neS : ∀ b u, H b = some u → b ≠ a := fun b u e z => by rw [z, na] at e; cases e
  have ne0 : ∀ b u, X.s_0.heap.get? b = some u → b ≠ a := fun b u e z => by rw [z, n0] at e; cases e
  refine ⟨I.ok, I.os, I.bare, ⟨I.base.keep, I.base.slot, fun b u e n hx => ?_, I.base.there, fun b xs e => ?_, fun b u xs e => ?_, fun b ps e => ?_⟩, I.loc, I.cell, ?_, fun x c e => ?_, fun p hp => ?_, fun b u e => ?_, I.len⟩
  · rw [upd_ne (ne0 b u e)]; exact I.base.free b u e n hx
  · have := I.base.tups b xs e; rw [upd_ne (neS b _ this)]; exact this
  · have := I.base.frzs b u xs e; rw [upd_ne (neS b _ this)]; exact this
  · obtain ⟨m, z⟩ := I.base.tbls b ps e
    exact ⟨m, by rw [upd_ne (neS b _ z)]; exact z⟩
  · rw [upd_ne (Ne.symm nL)]; exact I.free
  · obtain ⟨v, hv⟩ := I.cell x c e
    rw [upd_ne (fun z => nC v (by rw [← z]; exact hv))]
    exact I.freeC x c e
  · obtain ⟨e, n, ne, nf, d⟩ := I.pin p hp
    exact ⟨e, by rw [upd_ne (np p hp)]; exact n, ne, nf, d⟩
  · by_cases hb : b = a
    · subst hb
      rw [upd_same] at e
      cases e
      exact new
    · rw [upd_ne hb] at e
      exact (I.hok b u e).stay (fun c v _ q => q) (fun c q => by rw [upd_ne (ne_of_none q na)]; exact q) fun c xs q => by rw [upd_ne (ne_of_none q na)]; exact q
theorem toSuite (I : Inv X pins σ H s) (a : Addr) : Inv (X.suite a (X.pn ++ pins)) [] σ H s :=
  ⟨I.ok.suite _ _, I.os, I.bare, I.base, I.loc, I.cell, I.free, I.freeC, fun p hp => I.pin p (by rw [List.append_nil] at hp; exact hp), I.hok, I.len⟩
theorem ofSuite {a : Addr} {pn' : List (Addr × Obj)} (I : Inv (X.suite a (X.pn ++ pins)) pn' σ H s) (ok : X.Ok) : Inv X pins σ H s :=
  ⟨ok, I.os, I.bare, I.base, I.loc, I.cell, I.free, I.freeC, fun p hp => I.pin p (List.mem_append_left _ hp), I.hok, I.len⟩
end
/-- what the clause wishes of an exception of the body, always caught by it: slot i is its name's -/
def wAsV (K : PySem.W.Frag) (c : Value) (i : Nat) (ts : TS) (D : Ends) : WX := fun cls d σ H =>
  d = none ∧ ∃ C, cls = .ref C ∧ PySem.W.exmOne K cls c = some true ∧ ∀ a, H a = none → ts { nx := fun σ' H' => D.nx (σ'.set i none) H', rt := D.rt, bk := fun σ' H' => D.bk (σ'.set i none) H', ct := fun σ' H' => D.ct (σ'.set i none) H' } (σ.set i (some (.ref a))) (upd H a (ExV C a))
section
variable {X : Cx} {x n : Str} {c : Value} {i : Nat} {body suite : List Stmt} {b₀ : Stmt} {np pos pos' : Pos} {tb : WX → TS} {ts : TS}
theorem ps_try_asV (hs : X.stack = X.env :: X.outer) (hf : X.env.frame = some X.env.locals) (hex : X.ex = []) (hN : X.N.Nodup) (hi : X.N[i]? = some n) (hln : X.env.kindOf n = some .local) (hc : Names X x c)
    (hb : ∀ (W : WX) (pn : List (Addr × Obj)) (xe : Value → Shared → Prop), Takes (X.tr pn xe) W → PassesOwn (model X.prog X.w) X.A X.env xe → PSs (X.tr pn xe) body (tb W))
    (hsu : ∀ (a : Addr) (pn : List (Addr × Obj)), PSs (X.suite a pn) (b₀ :: suite) ts) :
    PS X (.Try body [.ExceptHandler (some (.Name x np)) (some n) (b₀ :: suite) pos'] [] [] pos) (fun D σ H => tb (wAsV X.K c i ts D) D σ H) := by
  refine ⟨fun pins s σ H D I h => ?_⟩
  have ok := I.ok
  have hfr : X.A.frames = some (X.env :: X.outer) := by rw [ok.frames, hs]
  have hloc : Loc X.env.scope n := .inl hln
  refine wpAny_Try_except ?_
  refine wpAny_mono ((hb (wAsV X.K c i ts D) (X.pn ++ pins) (fun e s₁ => wpAny (model X.prog X.w) X.A (noteFrame e X.env) (fun _ s₂ => wpAny (model X.prog X.w) X.A (setFlight e none) (fun _ s₃ =>
    wpAny (model X.prog X.w) X.A (handleBy e X.env [.ExceptHandler (some (.Name x np)) (some n) (b₀ :: suite) pos']) (SP X pins D) X.xe s₃) X.xe s₂) X.xe s₁) (fun u s' xx => ?_) PassesOwn.looking).run [] s σ H D (I.toTry _) h) (fun f s1 hsp => ?_) (fun e s1 he => he)
  · -- the catch
    obtain ⟨a, B, sI, pins', σ', H', cls, d, rfl, J', nb, up, sky, na, os, ag, hd0, C, rfl, hb1, hyes⟩ := xx
    subst hd0
    have J : Inv X pins σ' H' sI := J'.ofTry ok
    have sky' : Sky B (X.env :: X.outer) a (Zc (.ref C) none) X.env.locals s'.heap := by rw [← hs]; exact sky
    show wpAny (model X.prog X.w) X.A (noteFrame (.ref a) X.env) _ _ _
    refine Sky.land Zc.steady hfr hf sky' fun h3 fl3 up3 => ?_
    have J3 : Inv X pins σ' H' { s' with heap := h3 } := J.landed nb fl3.1 (up.trans up3) os ag
    obtain ⟨oe3, vs3, he3, hz3, hd3⟩ := fl3.there
    have notFr : ∀ {h : Heap} {o : Obj} {vs : Array Value}, h.FunFrames B (X.env :: X.outer) → h.get? a = some o → o.data = .fields vs → a ∉ frs (X.env :: X.outer) := fun {h o vs} ff e dd hm => by
      obtain ⟨_, o', e', hnf⟩ := ff.mem hm
      rw [e] at e'; cases e'
      exact hnf _ dd
    have nfr := notFr fl3.2.2.1 he3 hd3
    have nL : a ≠ X.env.locals := fun z => nfr (List.mem_filterMap.mpr ⟨X.env, List.mem_cons_self, by rw [hf, z]⟩)
    have nF : a ∉ X.fs := fun hm => by
      obtain ⟨e, he, q⟩ := List.mem_filterMap.mp hm
      exact nfr (List.mem_filterMap.mpr ⟨e, List.mem_cons_of_mem _ he, q⟩)
    have nI : sI.heap.get? a = none := by
      cases e : sI.heap.get? a with
      | none => rfl
      | some o =>
        have := nb a o e (by rw [hs]; exact nfr)
        rw [fl3.2.1] at this
        cases this
    have n0 : X.s_0.heap.get? a = none := by
      cases e : X.s_0.heap.get? a with
      | none => rfl
      | some o =>
        obtain ⟨o', e'⟩ := J.base.there a o e (by rw [hex]; exact fun z => nomatch z)
        rw [nI] at e'
        cases e'
    have npin : ∀ p ∈ X.pn ++ pins, p.1 ≠ a := fun p hp z => by
      obtain ⟨e, _⟩ := J.pin p hp
      rw [z, nI] at e
      cases e
    have S3 := J3.suite he3 hd3 na nL nF
    refine wpAny_handleBy_cons (codeAny_handlers_test ?_) (by intro q; cases q)
    have LT : PySem.W.Looks (model X.prog X.w) h3 (typeOf (.ref a)) (.ref C) := fun A Q E s k q => wpAny_typeOf_ref (k _ _ he3) (by rw [hz3.1]; exact q)
    have LM := PySem.W.exm_one (M := model X.prog X.w) (J3.kIn) LT hb1
    have test : ∀ {Q : Value → Shared → Prop} {E : Value → Shared → Prop}, Q c { s' with heap := h3 } → wpAny (model X.prog X.w) (X.A.mark (some (.ref a))) (eval (.Name x np) X.env) Q E { s' with heap := h3 } := fun {Q E} q => by
      obtain ⟨hg, hdbg, hm | ⟨hm, hv, hnn⟩⟩ := hc
      · exact ld_glob (X := X.suite a ((a, oe3) :: (X.pn ++ pins))) S3 hg hm q hdbg
      · exact ld_blt (X := X.suite a ((a, oe3) :: (X.pn ++ pins))) S3 hg hm hv q hnn hdbg
    refine test (LM.here ?_)
    refine codeAny_handlers_suite_as ?_
    refine HandSPX.lands_againZ fl3 fun h4 fl4 up4 => ?_
    have J4 : Inv X pins σ' H' { s' with heap := h4 } := J.landed nb fl4.1 ((up.trans up3).trans up4) os ag
    obtain ⟨oe4, vs4, he4, hz4, hd4⟩ := fl4.there
    have J5 : Inv X pins σ' (upd H' a (ExV C a)) { s' with heap := h4 } := adopt J4 na n0 nL (fun v ⟨o, e, dd⟩ => by
      have e' : h4.get? a = some o := e
      rw [he4] at e'
      cases e'
      rw [hd4] at dd
      cases dd) npin (exV_ok he4 hz4 hd4)
    refine store_ok (X := X.suite a (X.pn ++ pins)) (v := .ref a) (toSuite J5 a) hN hi hloc rfl (fun s5 S5 => ?_) (.inr hln)
    refine wpAny_mono ((hsu a (X.pn ++ pins)).run [] s5 _ _ _ S5 (hyes a na)) (fun f s6 hsp => ?_) (fun _ _ z => False.elim z)
    have end_ : ∀ {σ6 : L2.St} {H6 : Hp} {Q : Shared → Prop}, Inv (X.suite a (X.pn ++ pins)) [] σ6 H6 s6 → (∀ s7, Inv X pins (σ6.set i none) H6 s7 → Q s7) →
        wpAny (model X.prog X.w) X.A (do bindName X.env n .none; unbindBehindTheSuite X.env n pos') (fun _ s7 => Q s7) X.xe s6 := fun {σ6 H6 Q} S6 hq => gone_ok (ofSuite S6 ok) hN hi hln hq
    cases f with
    | next =>
      obtain ⟨σ6, H6, S6, q6⟩ := hsp
      exact end_ S6 fun s7 J7 => ⟨_, _, J7, q6⟩
    | brk =>
      obtain ⟨σ6, H6, S6, q6⟩ := hsp
      exact end_ S6 fun s7 J7 => ⟨_, _, J7, q6⟩
    | cont =>
      obtain ⟨σ6, H6, S6, q6⟩ := hsp
      exact end_ S6 fun s7 J7 => ⟨_, _, J7, q6⟩
    | ret u =>
      obtain ⟨v6, σ6, H6, S6, r6, q6⟩ := hsp
      exact end_ S6 fun s7 J7 => ⟨_, _, _, J7, r6, q6⟩
  · cases f with
    | next =>
      obtain ⟨σ', H', J', q⟩ := hsp
      exact wpAny_execs_nil ⟨σ', H', J'.ofTry ok, q⟩
    | brk =>
      obtain ⟨σ', H', J', q⟩ := hsp
      exact ⟨σ', H', J'.ofTry ok, q⟩
    | cont =>
      obtain ⟨σ', H', J', q⟩ := hsp
      exact ⟨σ', H', J'.ofTry ok, q⟩
    | ret u =>
      obtain ⟨v, σ', H', J', r, q⟩ := hsp
      exact ⟨v, σ', H', J'.ofTry ok, r, q⟩
/-- a block's reading, told at once -/
def lowS (K : PySem.W.Frag) (W : WX) (t : TS3) : TS := fun D s H => ∃ (G Z : Hp) (r : Rho) (D3 : Ends3), S3 K G Z H [] [] r s ∧ t D3 r ∧ Imp K W G Z D3 D
theorem B3.low {X : Cx} {sts : List Stmt} {t : TS3} (h : B3 X sts t) {W : WX} (tk : Takes X W) : PSs X sts (lowS X.K W t) := by
  obtain ⟨te, ea, sa⟩ := h.ex W tk
  exact ⟨fun pins s σ H D I ⟨G, Z, r, D3, st, ht, im⟩ => ea.run pins s σ H D I (sa G Z H r σ D D3 st ht im)⟩
/-- try: body / except x as n: suite, by values; U: the classes under x -/
def xTry (U : Addr → Prop) (i : Nat) (tb tu : TS3) : TS3 := fun D r => tb { D with ex := fun C r1 => U C ∧ tu { nx := fun r2 => D.nx (r2.set i none), rt := D.rt, bk := fun r2 => D.bk (r2.set i none), ct := fun r2 => D.ct (r2.set i none), ex := fun _ _ => False } (r1.set i (some (.d (excD C)))) } r
theorem m3_try (i : Nat) {U : Addr → Prop} {tb3 tu : TS3} (hs : X.stack = X.env :: X.outer) (hf : X.env.frame = some X.env.locals) (hex : X.ex = []) (hN : X.N.Nodup) (hi : X.N[i]? = some n) (hln : X.env.kindOf n = some .local) (hc : Names X x c) (hU : ∀ C, U C → PySem.W.exmOne X.K (.ref C) c = some true)
    (hb : ∀ (pn : List (Addr × Obj)) (xe : Value → Shared → Prop), PassesOwn (model X.prog X.w) X.A X.env xe → B3 (X.tr pn xe) body tb3)
    (hsu : ∀ (a : Addr) (pn : List (Addr × Obj)), B3 (X.suite a pn) (b₀ :: suite) tu) :
    M3 X (.Try body [.ExceptHandler (some (.Name x np)) (some n) (b₀ :: suite) pos'] [] [] pos) (xTry U i tb3 tu) := by
  refine ⟨fun W tk => ⟨_, ps_try_asV (tb := fun W => lowS X.K W tb3) (ts := lowS X.K (fun _ _ _ _ => False) tu) hs hf hex hN hi hln hc (fun W pn xe tk po => (hb pn xe po).low tk) (fun a pn => (hsu a pn).low takes0), fun G Z H r s D D3 st ht im => ?_⟩⟩
  refine ⟨G, Z, r, _, st, ht, ⟨im.nx, im.rt, im.bk, im.ct, fun Z' H' C r1 s1 g st1 q => ⟨rfl, C, rfl, hU C q.1, fun a ha => ?_⟩⟩⟩
  obtain ⟨g2, st2⟩ := st1.laidG (o := ExV C a) ha
  have gg := g.trans g2
  exact ⟨G, _, _, _, (st2.pushD (.exc upd_same (exV_is C a))).store, q.2, ⟨fun Z3 H3 r3 s3 g3 st3 q3 => im.nx Z3 H3 _ _ (gg.trans g3) st3.wipe q3, fun Z3 H3 r3 s3 x v g3 st3 q3 => im.rt Z3 H3 r3 s3 x v (gg.trans g3) st3 q3, fun Z3 H3 r3 s3 g3 st3 q3 => im.bk Z3 H3 _ _ (gg.trans g3) st3.wipe q3, fun Z3 H3 r3 s3 g3 st3 q3 => im.ct Z3 H3 _ _ (gg.trans g3) st3.wipe q3, fun _ _ _ _ _ _ _ q => q.elim⟩⟩
end
/-! ### isinstance of an exception -/
def rIsX (K : PySem.W.Frag) : List V → Hp → VK → Prop := fun xs H Q => ∃ (a C : Addr) (o : HO) (c : V) (cv : Value) (b : Bool), xs = [.ref a, c] ∧ H a = some o ∧ IsExc C a o ∧ ExcC K C ∧ (∀ u, RelV c u → u = cv) ∧ PySem.W.kitOne K (.ref C) cv = some b ∧ Q (.bl b) H
theorem call_isX {X : Cx} : CallR X (.builtin "isinstance") (rIsX X.K) := by
  intro pins s σ H xs us Q I r h
  obtain ⟨a, D, o, c, cv, b, rfl, ho, ⟨φ, rfl, hφ⟩, C, hcv, e, q⟩ := h
  cases r with
  | cons rx rr =>
    cases rr with
    | cons rt rr =>
      cases rr
      cases rx
      have ec := hcv _ rt
      subst ec
      have ob : ObjOk X.prog X.w H s.heap a (.ext φ) := I.hok a _ ho
      obtain ⟨oe, vs, hget, hz, hv⟩ := hφ _ ob.1
      have J : PySem.W.InstAt s.heap a oe D none := by
        obtain ⟨oc, od, oda, osl⟩ := oe
        obtain ⟨h1, h2⟩ := hz
        dsimp only at h1 h2 hv
        subst h1 h2 hv
        exact ⟨hget, rfl, rfl, trivial⟩
      exact PySem.W.kia_one (PySem.W.handS_kitx_exc C.hg C.hk C.hs C.hd C.ha C.hn C.ht C.hm) I.kIn J e (fun z => nomatch z) fun tk => ⟨.bl b, H, I.kept (t' := tk) fun _ _ z => z, rfl, q⟩
section
variable {X : Cx} {a e : Expr} {ta t : TE3} {pos p p2 : Pos}
/-- N: the classes' names; c: where they stand; sub: which is under which -/
def xIsE (N : List Str) (c : Str → Addr) (sub : Str → Str → Bool) (m : Str) (ta : TE3) : TE3 := fun r Q => ta r fun x r' => ∃ n, n ∈ N ∧ x = .d (excD (c n)) ∧ Q (.d (.bool (sub n m))) r'
theorem r3_isE {N : List Str} {c : Str → Addr} {sub : Str → Str → Bool} {m : Str} {v0 : V} {cv : Value} (hg : Gl X "isinstance") (hm : X.mg "isinstance" = none)
    (hC : ∀ n ∈ N, ExcC X.K (c n)) (hcv : ∀ u, RelV v0 u → u = cv) (hk : ∀ n ∈ N, PySem.W.kitOne X.K (.ref (c n)) cv = some (sub n m)) (hp : PE X (.Name m p2) (tC v0)) (ha : R3 X a ta)
    (he : starEach [a, .Name m p2] X.env = (false, eval a X.env) :: starEach [.Name m p2] X.env := by rfl) (he2 : starEach [.Name m p2] X.env = (false, eval (.Name m p2) X.env) :: starEach [] X.env := by rfl)
    (hpl : (backTo pos (starEach [.Name m p2] X.env)).any (·.1) = false := by rfl) : R3 X (.Call (.Name "isinstance" p) [a, .Name m p2] [] pos) (xIsE N c sub m ta) := by
  obtain ⟨tea, ea, sa⟩ := ha.ex
  refine ⟨_, pe_callB call_isX hg hm boot_isinstance (pa_cons ea (pa_cons hp pa_nil he2) he) (by decide) (by decide) he hpl, fun G Z H ks vs r s Q Q3 st ht k => sa G Z H ks vs r s _ _ st ht fun Z1 H1 x v r1 g1 st1 pv q => ?_⟩
  obtain ⟨n, hn, rfl, q⟩ := q
  cases (show Dq X.K Z1 v (excD (c n)) from pv) with
  | exc h1 h2 => exact ⟨_, c n, _, v0, cv, _, rfl, st1.zh _ _ h1, h2, hC n hn, hcv, hk n hn, k Z1 H1 (.d (.bool _)) _ r1 g1 st1 (Dq.bl _) q⟩
/-- X('m') as a value -/
theorem r3_new {C : Addr} {bmB : List Value} {B newId initId : String} {x : Str} {m : Str} {j} (F : ExcBaseFacts B newId initId bmB) (q : PySem.W.excIn X.K C bmB newId = true) (gC : X.mg x = some (.ref C)) (kC : PySem.W.keepIn X.K (.ref C) = true) (hg : Gl X x)
    (hs : starEach [.Constant (.str m) j p2] X.env = (false, eval (.Constant (.str m) j p2) X.env) :: starEach [] X.env := by rfl) (hdb : (x == ("__debug__" : Str)) = false := by decide) : R3 X (.Call (.Name x p) [.Constant (.str m) j p2] [] pos) (xC (excD C)) :=
  ⟨_, pe_exc1 F q gC kC hg pe_str hs hdb, fun G Z H ks vs r s Q Q3 st ht k => fun a ha => by
    obtain ⟨g2, st2⟩ := st.laidG (o := ExO (.ref C) a) ha
    exact k _ _ (.d (excD C)) _ r g2 st2 (.exc upd_same (exO_is C a)) ht⟩
/-! ### l.index(b), l.count(b) of a list of truths -/
def asBs (r1 r : Rho) (t : T) (k : List Bool → Prop) : Prop := match t with
  | .d (.list l) => ∃ bs : List Bool, l = bs.map PyData.bool ∧ k bs
  | .own _ l => r = r1 ∧ ∃ bs : List Bool, (l = bs.map fun b => T.d (.bool b)) ∧ k bs
  | _ => False
theorem bools_dqa {K : PySem.W.Frag} {Z : Hp} : ∀ {ys : List Bool} {xs : List V}, DqAll K Z xs (ys.map PyData.bool) → xs = ys.map V.bl
  | [], xs, h => by cases h; rfl
  | y :: ys, xs, h => by
    cases h with
    | cons h1 h2 =>
      cases h1
      rw [bools_dqa h2]
      rfl
theorem bools_rts {K : PySem.W.Frag} {Z H : Hp} : ∀ {ys : List Bool} {xs : List V}, RTs K Z H (ys.map fun z => T.d (.bool z)) xs → xs = ys.map V.bl
  | [], xs, h => by cases h; rfl
  | y :: ys, xs, h => by
    cases h with
    | cons h1 h2 =>
      cases h1 with
      | d h1 =>
        cases h1
        rw [bools_rts h2]
        rfl
theorem asBs_of {K : PySem.W.Frag} {G Z H : Hp} {ks : List T} {vs : List V} {r1 r : Rho} {s : L2.St} {t : T} {v : V} {k : List Bool → Prop} (h : asBs r1 r t k) (st : S3 K G Z H ks vs r s) (p : Pv2 K Z r1 r s t v) : ∃ a bs, v = .ref a ∧ SqL K H a (bs.map V.bl) ∧ k bs := by
  unfold asBs at h
  split at h
  · obtain ⟨ys, rfl, q⟩ := h
    cases p.dat _ rfl with
    | @lst a1 xs _ hs1 ha1 =>
      cases bools_dqa ha1
      exact ⟨a1, ys, rfl, SqL.of (st.zh _ _ hs1), q⟩
  · obtain ⟨e1, ys, rfl, q⟩ := h
    cases (p.same e1).now st with
    | own h1 h2 =>
      cases bools_rts h2
      exact ⟨_, ys, rfl, SqL.of h1, q⟩
  · exact h.elim
def rCountB (K : PySem.W.Frag) : V → List V → Hp → VK → Prop := fun x xs H Q => ∃ (a : Addr) (bs : List Bool) (b : Bool), x = V.ref a ∧ xs = [.bl b] ∧ SqL K H a (bs.map V.bl) ∧ Q (.int (bs.countP fun y => y == b : Nat)) H
theorem bools_vals : ∀ {bs : List Bool} {us : List Value}, Vals (bs.map V.bl) us → us = bs.map Value.bool
  | [], us, h => by cases h; rfl
  | b :: bs, us, h => by
    cases h with
    | cons h1 h2 =>
      cases h1
      rw [bools_vals h2]
      rfl
theorem bools_reads (h : Heap) : ∀ (bs : List Bool), ReadsAll h (bs.map Value.bool) (bs.map PyData.bool) []
  | [] => .nil
  | b :: bs => .cons (as := []) (.bool b) (bools_reads h bs)
theorem bools_plain : ∀ (bs : List Bool), PyData.plainAll (bs.map PyData.bool) = true
  | [] => rfl
  | b :: bs => by
    show (PyData.plain (.bool b) && PyData.plainAll (bs.map PyData.bool)) = true
    rw [bools_plain bs]
    rfl
theorem mt_countB (hu : X.A.units + 64 < cLine) : MtR X "list.count" (rCountB X.K) := by
  intro pins s σ H x xs v us Q I rx rxs h
  obtain ⟨a, bs, b, rfl, rfl, hs, q⟩ := h
  cases rx
  cases rxs with
  | cons ry rt =>
    cases rt
    cases ry
    obtain ⟨its, rv, hl, _⟩ := I.list hs
    cases bools_vals rv
    refine SeqAt.count_list_data (xs := bs.map PyData.bool) (d := .bool b) hl.isList (bools_reads _ bs) (.bool b) (bools_plain bs) rfl ?_ ?_
    · have e : min (PyData.depthAll (bs.map PyData.bool)) (PyData.bool b).depth ≤ 1 := by
        refine Nat.le_trans (Nat.min_le_right _ _) ?_
        show (PyData.bool b).depth ≤ 1
        simp [PyData.depth]
      omega
    · rw [List.countP_map]
      have e : (bs.countP ((fun y => PyData.eqv y (.bool b)) ∘ PyData.bool)) = bs.countP fun y => y == b := by
        refine List.countP_congr fun y _ => ?_
        show PyData.eqv (.bool y) (.bool b) = true ↔ (y == b) = true
        cases y <;> cases b <;> simp [PyData.eqv]
      rw [e]
      exact ⟨.int _, H, I.tok _, ⟨_, rfl⟩, q⟩
def cCountB : C2 := fun r1 x y r Q => asB y fun b => asBs r1 r x fun bs => Q (.d (.int (bs.countP fun y => y == b : Nat))) r
def cIndexB : C2 := fun r1 x y r Q => asB y fun b => asBs r1 r x fun bs => ∃ j : Nat, bs[j]? = some b ∧ (∀ m, m < j → bs[m]? = some (!b)) ∧ Q (.d (.int (j : Nat))) r
def isLst : T → Prop
  | .d (.list _) => True
  | .own _ _ => True
  | _ => False
def xBm (c : C2) (ta tb : TE3) : TE3 := fun r Q => ta r fun x r1 => isLst x ∧ tb r1 fun y r2 => c r1 x y r2 Q
theorem isLst_ty {K : PySem.W.Frag} {G Z H : Hp} {ks : List T} {vs : List V} {r : Rho} {s : L2.St} {t : T} {v : V} (h : isLst t) (st : S3 K G Z H ks vs r s) (p : Pv K Z r s t v) : tyV K "list" v H := by
  unfold isLst at h
  split at h
  · cases (show Dq K Z v (.list _) from p) with
    | lst hs ha => exact .inl ⟨rfl, _, SqL.of (st.zh _ _ hs)⟩
  · cases p.now st with
    | own h1 h2 => exact .inl ⟨rfl, _, SqL.of h1⟩
  · exact h.elim
theorem r3_countB (hu : X.A.units + 64 < cLine) {e2 : Expr} {tb : TE3} {apos : Pos} (ha : R3 X a ta) (hb : R3 X e2 tb) (hbase : attributeBase a "count" X.env (eval a X.env) = eval a X.env := by rfl) (hs : starEach [e2] X.env = (false, eval e2 X.env) :: starEach [] X.env := by rfl)
    (hfew : ((backTo pos (starEach [e2] X.env)).all (fun x => !x.1) && (backToKw pos (keywordEach [] X.env)).all (fun x => x.1.isSome) && decide ([e2].length + ([] : List Keyword).length + (if ([] : List Keyword).isEmpty then 0 else 1) < 30)) = true := by rfl)
    (hline : (apos.endLine == pos.line) = true := by rfl) (hplain : (backTo pos (starEach ([] : List Expr) X.env)).any (·.1) = false := by rfl) :
    R3 X (.Call (.Attribute a "count" apos) [e2] [] pos) (xBm cCountB ta tb) := by
  obtain ⟨tea, ea, sa⟩ := ha.ex
  obtain ⟨teb, eb, sb⟩ := hb.ex
  refine ⟨_, pe_bm PySem.F.plainAttrs_list PySem.F.slot_list_count PySem.F.type_list_count (mt_countB hu) ea (pa_cons eb pa_nil hs) hbase hfew hline hs hplain, fun G Z H ks vs r s Q Q3 st ht k => sa G Z H ks vs r s _ _ st ht fun Z1 H1 x v r1 g1 st1 pv q => ⟨isLst_ty q.1 st1 pv, sb G Z1 H1 ks vs r1 s _ _ st1 q.2 fun Z2 H2 y u r2 g2 st2 pv2 q2 => ?_⟩⟩
  obtain ⟨b, rfl, q2⟩ := asB_of q2
  obtain ⟨p, bs, rfl, hq, q2⟩ := asBs_of q2 st2 (pv.two g2.sub)
  exact ⟨p, bs, b, rfl, by rw [pv2.bool], hq, k Z2 H2 (.d (.int _)) _ r2 (g1.trans g2) st2 (Dq.int _) q2⟩
theorem r3_indexB {e2 : Expr} {tb : TE3} {apos : Pos} (ha : R3 X a ta) (hb : R3 X e2 tb) (hbase : attributeBase a "index" X.env (eval a X.env) = eval a X.env := by rfl) (hs : starEach [e2] X.env = (false, eval e2 X.env) :: starEach [] X.env := by rfl)
    (hfew : ((backTo pos (starEach [e2] X.env)).all (fun x => !x.1) && (backToKw pos (keywordEach [] X.env)).all (fun x => x.1.isSome) && decide ([e2].length + ([] : List Keyword).length + (if ([] : List Keyword).isEmpty then 0 else 1) < 30)) = true := by rfl)
    (hline : (apos.endLine == pos.line) = true := by rfl) (hplain : (backTo pos (starEach ([] : List Expr) X.env)).any (·.1) = false := by rfl) :
    R3 X (.Call (.Attribute a "index" apos) [e2] [] pos) (xBm cIndexB ta tb) := by
  obtain ⟨tea, ea, sa⟩ := ha.ex
  obtain ⟨teb, eb, sb⟩ := hb.ex
  refine ⟨_, pe_bm PySem.F.plainAttrs_list PySem.F.slot_list_index PySem.F.type_list_index mt_index ea (pa_cons eb pa_nil hs) hbase hfew hline hs hplain, fun G Z H ks vs r s Q Q3 st ht k => sa G Z H ks vs r s _ _ st ht fun Z1 H1 x v r1 g1 st1 pv q => ⟨isLst_ty q.1 st1 pv, sb G Z1 H1 ks vs r1 s _ _ st1 q.2 fun Z2 H2 y u r2 g2 st2 pv2 q2 => ?_⟩⟩
  obtain ⟨b, rfl, q2⟩ := asB_of q2
  obtain ⟨p, bs, rfl, hq, j, hj, hno, q2⟩ := asBs_of q2 st2 (pv.two g2.sub)
  refine ⟨p, bs.map V.bl, .bl b, j, .bl b, rfl, by rw [pv2.bool], hq, rfl, ?_, by rw [List.getElem?_map, hj]; rfl, by cases b <;> rfl, fun m z' hm hz => ?_, k Z2 H2 (.d (.int _)) _ r2 (g1.trans g2) st2 (Dq.int _) q2⟩
  · rw [List.all_map]; exact List.all_eq_true.mpr fun _ _ => rfl
  · rw [List.getElem?_map, hno m hm] at hz
    cases hz
    cases b <;> rfl
end
/-! ### the program's classes of refusals -/
def errN : List Str := ["NoAsking", "NoNumber", "NoText", "NoLattice", "NoAsk"]
def errSub (n m : Str) : Bool := n == m || m == "UnderError" || m == "ValueError"
/-- the address of a class, by its name -/
def cOf (mg : Str → Option Value) (n : Str) : Addr := match mg n with | some (.ref a) => a | _ => 0
theorem cOf_eq {mg : Str → Option Value} {n : Str} {a : Addr} (h : mg n = some (.ref a)) : cOf mg n = a := by
  unfold cOf
  rw [h]
/-- one of the refusals under the classes' head -/
def Under (cN : Str → Addr) (C : Addr) : Prop := ∃ n, n ∈ errN ∧ C = cN n
structure ErrC (K : PySem.W.Frag) (mg : Str → Option Value) (n : Str) : Prop where
  g : mg n = some (.ref (cOf mg n))
  x : PySem.W.excIn K (cOf mg n) [.type "ValueError", .type "Exception", .type "BaseException", .type "object"] "ValueError.__new__" = true
  k : PySem.W.keepIn K (.ref (cOf mg n)) = true
  b : PySem.W.subIn K (.ref (cOf mg n)) (.type "BaseException") = some true
  t : PySem.W.typeIn K (.ref (cOf mg n)) = some (.type "type")
  c : ExcC K (cOf mg n)
  u : PySem.W.exmOne K (.ref (cOf mg n)) (.ref (cOf mg "UnderError")) = some true
  i : ∀ m, m ∈ errN ∨ m = "UnderError" → PySem.W.kitOne K (.ref (cOf mg n)) (.ref (cOf mg m)) = some (errSub n m)
  v : PySem.W.kitOne K (.ref (cOf mg n)) (.type "ValueError") = some true
structure ErrOk (K : PySem.W.Frag) (mg : Str → Option Value) : Prop where
  e : ∀ n ∈ errN, ErrC K mg n
  u : mg "UnderError" = some (.ref (cOf mg "UnderError"))
  v : mg "ValueError" = none
theorem ErrOk.und {K : PySem.W.Frag} {mg : Str → Option Value} (h : ErrOk K mg) : ∀ C, Under (cOf mg) C → PySem.W.exmOne K (.ref C) (.ref (cOf mg "UnderError")) = some true := fun C ⟨n, hn, e⟩ => by
  rw [e]; exact (h.e n hn).u
section
variable {X : Cx} {a : Expr} {ta : TE3} {pos p p2 pos' : Pos}
/-- raise X('m'), of the program's own -/
theorem m3_raiseN (n : Str) {m : Str} {j} (E : ErrOk X.K X.mg) (hg : Gl X n) (hn : n ∈ errN := by decide) (hc : X.calm = true := by rfl) (hdb : (n == ("__debug__" : Str)) = false := by decide) : M3 X (.Raise (some (.Call (.Name n p) [.Constant (.str m) j p2] [] pos)) none pos') (xRaise (cOf X.mg n)) :=
  m3_raise hc (pmk_own PySem.F.excBase_ValueError (E.e n hn).x (E.e n hn).g (E.e n hn).k (raises_own (E.e n hn).b (E.e n hn).t) hg hdb)
theorem r3_newN (n : Str) {m : Str} {j} (E : ErrOk X.K X.mg) (hg : Gl X n) (hn : n ∈ errN := by decide) (hs : starEach [.Constant (.str m) j p2] X.env = (false, eval (.Constant (.str m) j p2) X.env) :: starEach [] X.env := by rfl) (hdb : (n == ("__debug__" : Str)) = false := by decide) : R3 X (.Call (.Name n p) [.Constant (.str m) j p2] [] pos) (xC (excD (cOf X.mg n))) :=
  r3_new PySem.F.excBase_ValueError (E.e n hn).x (E.e n hn).g (E.e n hn).k hg hs hdb
theorem r3_isN_ (m : Str) (E : ErrOk X.K X.mg) (hg : Gl X "isinstance") (hm : X.mg "isinstance" = none) (hgm : Gl X m) (ha : R3 X a ta) (hn : m ∈ errN ∨ m = "UnderError" := by decide)
    (he : starEach [a, .Name m p2] X.env = (false, eval a X.env) :: starEach [.Name m p2] X.env := by rfl) (he2 : starEach [.Name m p2] X.env = (false, eval (.Name m p2) X.env) :: starEach [] X.env := by rfl)
    (hpl : (backTo pos (starEach [.Name m p2] X.env)).any (·.1) = false := by rfl) (hd : (m == ("__debug__" : Str)) = false := by decide) : R3 X (.Call (.Name "isinstance" p) [a, .Name m p2] [] pos) (xIsE errN (cOf X.mg) errSub m ta) :=
  r3_isE (v0 := .ref (cOf X.mg m)) (cv := .ref (cOf X.mg m)) hg hm (fun n hn => (E.e n hn).c) (fun u r => by cases r; rfl) (fun n hn2 => (E.e n hn2).i m hn) (pe_glob hgm (by
    rcases hn with h | h
    · exact (E.e m h).g
    · subst h; exact E.u) rfl hd) ha he he2 hpl
theorem r3_isV (E : ErrOk X.K X.mg) (hg : Gl X "isinstance") (hm : X.mg "isinstance" = none) (hgm : Gl X "ValueError") (ha : R3 X a ta)
    (he : starEach [a, .Name "ValueError" p2] X.env = (false, eval a X.env) :: starEach [.Name "ValueError" p2] X.env := by rfl) (he2 : starEach [.Name "ValueError" p2] X.env = (false, eval (.Name "ValueError" p2) X.env) :: starEach [] X.env := by rfl)
    (hpl : (backTo pos (starEach [.Name "ValueError" p2] X.env)).any (·.1) = false := by rfl) : R3 X (.Call (.Name "isinstance" p) [a, .Name "ValueError" p2] [] pos) (xIsE errN (cOf X.mg) errSub "ValueError" ta) :=
  r3_isE (v0 := .ty "ValueError") (cv := .type "ValueError") hg hm (fun n hn => (E.e n hn).c) (fun u r => by cases r; rfl) (fun n hn => by rw [(E.e n hn).v]; unfold errSub; simp) (pe_bltn hgm E.v boot_ValueError rfl (by decide) (by decide)) ha he he2 hpl
theorem m3_tryU (i : Nat) {n : Str} {b₀ : Stmt} {body suite : List Stmt} {np : Pos} {tb tu : TS3} (E : ErrOk X.K X.mg) (hN : X.N.Nodup) (hg : Gl X "UnderError")
    (hb : ∀ (pn : List (Addr × Obj)) (xe : Value → Shared → Prop), PassesOwn (model X.prog X.w) X.A X.env xe → B3 (X.tr pn xe) body tb)
    (hsu : ∀ (a : Addr) (pn : List (Addr × Obj)), B3 (X.suite a pn) (b₀ :: suite) tu) (hs : X.stack = X.env :: X.outer := by rfl) (hf : X.env.frame = some X.env.locals := by rfl) (hex : X.ex = [] := by rfl) (hi : X.N[i]? = some n := by rfl) (hln : X.env.kindOf n = some .local := by rfl) :
    M3 X (.Try body [.ExceptHandler (some (.Name "UnderError" np)) (some n) (b₀ :: suite) pos'] [] [] pos) (xTry (Under (cOf X.mg)) i tb tu) :=
  m3_try i hs hf hex hN hi hln ⟨hg, by decide, .inl E.u⟩ E.und hb hsu
end
theorem kit_ref {K : PySem.W.Frag} {D C : Addr} {b : Bool} (hsub : PySem.W.subIn K (.ref D) (.ref C) = some b) (hself : PySem.W.subIn K (.ref D) (.ref D) = some true) (hd : PySem.W.hasDictIn K C = true) (ht : PySem.W.typeIn K (.ref C) = some (.type "type")) : PySem.W.kitOne K (.ref D) (.ref C) = some b := by
  unfold PySem.W.kitOne
  by_cases e : D = C
  · subst e
    rw [hself] at hsub
    cases hsub
    rw [if_pos (by simp)]
  · rw [if_neg (by simpa using e)]
    obtain ⟨cd, hc, _⟩ := PySem.W.any_some hd
    unfold PySem.W.kitCls
    show (if ((PySem.W.clsIn K C).isSome && PySem.W.typeIn K (.ref C) == some (.type "type")) = true then _ else _) = _
    rw [hc, ht, if_pos (by rfl)]
    exact hsub
theorem kit_val {K : PySem.W.Frag} {D : Addr} (h : PySem.W.subIn K (.ref D) (.type "ValueError") = some true) : PySem.W.kitOne K (.ref D) (.type "ValueError") = some true := by
  unfold PySem.W.kitOne
  rw [if_neg (by rw [show ((Value.ref D) == Value.type "ValueError") = false from rfl]; exact Bool.false_ne_true)]
  unfold PySem.W.kitCls
  show (if PySem.W.kitMeta "ValueError" = true then _ else _) = _
  rw [if_pos (by decide +kernel)]
  exact h
theorem errN_cases {n : Str} (h : n ∈ errN) : n = "NoAsking" ∨ n = "NoNumber" ∨ n = "NoText" ∨ n = "NoLattice" ∨ n = "NoAsk" := by
  simpa [errN] using h
theorem errC_of {K : PySem.W.Frag} {mg : Str → Option Value} {n : Str} {e eU : Addr} (g : mg n = some (.ref e)) (gU : mg "UnderError" = some (.ref eU)) (x : PySem.W.excIn K e [.type "ValueError", .type "Exception", .type "BaseException", .type "object"] "ValueError.__new__" = true) (k : PySem.W.keepIn K (.ref e) = true) (b : PySem.W.subIn K (.ref e) (.type "BaseException") = some true)
    (t : PySem.W.typeIn K (.ref e) = some (.type "type")) (hd : PySem.W.hasDictIn K e = true) (hg : PySem.W.findIn K (.ref e) "__getattribute__" = some (some (.builtin "BaseException.__getattribute__"))) (hk : PySem.W.findIn K (.ref e) "__getattr__" = some none) (ha : PySem.W.findIn K (.ref e) "__class__" = some (some (.builtin "object.__class__")))
    (hn : PySem.W.specialIn K (.builtin "object.__class__") "__get__" = some (some (.builtin "getset_descriptor.__get__"))) (ht : PySem.W.takesIn K (.builtin "object.__class__") = some true) (hm : PySem.W.mroIn K e (.type "object") = some true) (u0 : PySem.W.subIn K (.ref e) (.ref eU) = some true) (bU : PySem.W.subIn K (.ref eU) (.type "BaseException") = some true)
    (hdU : PySem.W.hasDictIn K eU = true) (tU : PySem.W.typeIn K (.ref eU) = some (.type "type")) (self : PySem.W.subIn K (.ref e) (.ref e) = some true) (v : PySem.W.subIn K (.ref e) (.type "ValueError") = some true)
    (i : ∀ m, m ∈ errN ∨ m = "UnderError" → ∃ em, mg m = some (.ref em) ∧ PySem.W.hasDictIn K em = true ∧ PySem.W.typeIn K (.ref em) = some (.type "type") ∧ PySem.W.subIn K (.ref e) (.ref em) = some (errSub n m)) : ErrC K mg n := by
  have q := cOf_eq g
  have qU := cOf_eq gU
  refine ⟨by rw [q]; exact g, by rw [q]; exact x, by rw [q]; exact k, by rw [q]; exact b, by rw [q]; exact t, by rw [q]; exact ⟨hg, hk, b, hd, ha, hn, ht, hm⟩, by rw [q, qU]; exact PySem.W.exm_ref bU hdU tU u0, fun m hm => ?_, by rw [q]; exact kit_val v⟩
  obtain ⟨em, gm, h1, h2, h3⟩ := i m hm
  rw [q, cOf_eq gm]
  exact kit_ref h3 self h1 h2
end L3
namespace L3
open PySem PySem.Spec PyProof.Rows L2
/-- // by any divisor but 0 -/
def CDivF (_ j : Int) : Prop := j ≠ 0 ∧ j.natAbs.log2 < 9000
section
variable {X : Cx} {a b : Expr} {ta tb : TE3} {pos : Pos}
theorem op_fdivF : OpR X (binaryOp .FloorDiv) (rI CDivF fun i j => .int (i.fdiv j)) := opI fun _ _ _ _ _ _ _ hc q => floordiv_int hc.1 q (.inl (PyProof.noPylong_of_log2 hc.2))
abbrev kDivF : C2 := cI CDivF fun i j => .int (i.fdiv j)
theorem r3_fdivF (ha : R3 X a ta) (hb : R3 X b tb) : R3 X (.BinOp a .FloorDiv b pos) (x2 kDivF ta tb) := r3_op op_fdivF (con_I (fun _ _ h => h) fun _ _ _ => rfl) ha hb
end
end L3
/-! enumerate of a list or a tuple -/
namespace PySem
open Sem (wp)
set_option maxHeartbeats 1000000 in
theorem meets_enumerate_newB {v1 : Value} {o1 : Obj} {H1 : Heap → Prop} (B1 : Begins v1 o1 H1) :
    Meets (Builtin.«enumerate.__new__» ⟨[.type "enumerate", v1], []⟩) (fun _ R s => H1 s.heap ∧
      R (.ok (.ret (.ref (s.heap.push o1).objs.size))) { s with heap := (s.heap.push o1).push { cls := .type "enumerate", data := .fields #[.none, .bool false, .ref s.heap.objs.size, rawInt 0, .none, .none] } }) :=
  .of_wp fun prog w A R s h => by
    obtain ⟨hp, g, d, tk, os⟩ := s; obtain ⟨h1, h⟩ := h
    have hsub := sub_enumerate
    have q1 : ∀ {A' : Around} {E : Value → Shared → Prop} {Q : Value → Shared → Prop}, Q (.ref hp.objs.size) ⟨(hp.push o1), g, d, tk, os⟩ → wpAny (model prog w) A' (pyIter v1) Q E ⟨hp, g, d, tk, os⟩ :=
      fun q => B1.iter prog w _ _ ⟨hp, g, d, tk, os⟩ _ (B1.keeps _ _ h1 fun b o' e => e) q
    wp_walk
    refine wpAny_stack_any fun st => wpAny_pure ?_
    split
    · rename_i c _ _ _ _ _
      cases (c == Value.type "enumerate")
      · wp_walk using q1
        exact ⟨_, rfl, h⟩
      · wp_walk using q1
        exact ⟨_, rfl, h⟩
    · wp_walk using q1
      exact ⟨_, rfl, h⟩
theorem enumerate_begins {prog : Program} {w : World} {A : Around} {E : Value → Shared → Prop} {s : Shared} {v1 : Value} {o1 : Obj} {H1 : Heap → Prop} {Q : Value → Shared → Prop} (B1 : Begins v1 o1 H1) (h1 : H1 s.heap)
    (h : ∀ h', IsEnum h' (s.heap.objs.size + 1) s.heap.objs.size 0 .none → h'.get? s.heap.objs.size = some o1 → h'.objs.size = s.heap.objs.size + 2 →
      (∀ b o, s.heap.get? b = some o → h'.get? b = some o) → Q (.ref (s.heap.objs.size + 1)) { s with heap := h' }) :
    wpAny (model prog w) A (call (.type "enumerate") [v1]) Q E s := by
  refine callType_new F.called_enumerate (by decide) (F.typeCall_enumerate_1 _) (F.newCall_enumerate_1 _) (fun obj => F.args_object_init_2 obj _) F.entry_enumerate_new
    (meets_enumerate_newB B1) ⟨h1, ?_⟩
  have hz : (s.heap.push o1).objs.size = s.heap.objs.size + 1 := Heap.size_push ..
  show _ ∧ _
  rw [hz]
  have he : IsEnum ((s.heap.push o1).push
      { cls := .type "enumerate", data := .fields #[.none, .bool false, .ref s.heap.objs.size, rawInt 0, .none, .none] }) (s.heap.objs.size + 1) s.heap.objs.size 0 .none := by
    have := Heap.get?_push_size (s.heap.push o1)
      (o := { cls := .type "enumerate", data := .fields #[.none, .bool false, .ref s.heap.objs.size, rawInt 0, .none, .none] }) rfl
    rw [hz] at this; exact this
  exact ⟨⟨_, he, rfl⟩, h _ he (Heap.get?_push_of_some _ (Heap.get?_push_size _ B1.free)) (by rw [Heap.size_push, hz]) fun b o x => Heap.get?_push_of_some _ (Heap.get?_push_of_some _ x)⟩
end PySem
namespace L3
open PySem PySem.Spec PyProof.Rows L2 RZ
def IteX (K : PySem.W.Frag) (p : Bool) (a : Addr) : It :=
  ⟨fun i H => ∃ (xs : List V) (x : V), SqX K p H a xs ∧ xs[i]? = some x, fun i H v H' => ∃ T x, v = .ref T ∧ H T = none ∧ H' = upd H T (.tup [.int (i : Nat), x]) ∧ ∀ xs, SqX K p H a xs → xs[i]? = some x, fun i H => ∃ xs : List V, SqX K p H a xs ∧ xs.length ≤ i⟩
theorem turn_enumX {P : Program} {w : World} {K : PySem.W.Frag} {elts : List Expr} {kk : Nat} {tpos : Pos} {p : Bool} (a e it : Addr) (ne1 : a ≠ it) (ne2 : a ≠ e) :
    Turn P w K (.Tuple elts kk tpos) (IteX K p a) [e, it] e (fun i h => (∃ old, IsEnum h e it ((i : Nat) : Int) old) ∧ ItIs p h it a i ∧ e ≠ it) where
  mem := by simp
  obj := fun i h st b hb => by
    obtain ⟨⟨old, he⟩, hi, _⟩ := st
    obtain ⟨o, vs, ho, hd⟩ := hi.fields
    have e' : b = e ∨ b = it := by simpa using hb
    rcases e' with z | z
    · rw [z]; exact ⟨_, he, fun v q => nomatch q⟩
    · rw [z]; exact ⟨o, ho, fun v q => by rw [hd] at q; cases q⟩
  keep := fun i h h' st k => let ⟨⟨old, he⟩, hi, hne⟩ := st; ⟨⟨old, k e (by simp) _ he⟩, hi.at fun o q => k it (by simp) o q, hne⟩
  item := by
    intro X hP hw hK hc i pins s σ H E I hf st hg
    subst hP hw hK
    obtain ⟨⟨old, he⟩, hit, hne⟩ := st
    obtain ⟨xs, x, hq, hx⟩ := hg
    obtain ⟨its, rv, p1, _⟩ := seqX I hq
    obtain ⟨u, hu, ru⟩ := rv.get hx
    have hel : e < s.heap.objs.size := Heap.lt_size he
    have hil : it < s.heap.objs.size := by obtain ⟨_, _, q, _⟩ := hit.fields; exact Heap.lt_size q
    have s1 : i < its.toArray.size := by have := (List.getElem?_eq_some_iff.mp hu).1; simpa using this
    refine wpAny_pyNext_enum_itemD (drawsX (A := X.A.in1) (I.ok.hd hc) p it a ne1 its.toArray) he ⟨hit, p1⟩ s1 hne (by simp [hne, Ne.symm ne2]) fun w1 h' tk y1 ho hit' hT hsz hk => ?_
    have e1 : w1 = u := by
      have : its.toArray[i]? = some w1 := y1
      rw [List.getElem?_toArray, hu] at this
      cases this; rfl
    subst e1
    refine ⟨_, rfl, wpAny_letOwnedTupleGo_enum (s := { s with heap := h', toks := tk + 1 }) ho fun h'' he' sb => ?_⟩
    have hT2 : h''.get? s.heap.objs.size = some { cls := .type "tuple", data := .seq #[.int i tk, w1] } := (sb.2 _ (Nat.ne_of_gt hel)).trans hT
    have new : ObjOk X.prog X.w (upd H s.heap.objs.size (.tup [.int (i : Nat), x])) h'' s.heap.objs.size (.tup [.int (i : Nat), x]) :=
      ⟨by show 2 ≤ sizeLine; decide, [.int i tk, w1], .cons ⟨_, rfl⟩ (.cons ru .nil), ⟨_, hT2, rfl, _, rfl⟩⟩
    have I1 : Inv X pins σ (upd H s.heap.objs.size (.tup [.int (i : Nat), x])) { s with heap := h'', toks := tk + 1 } :=
      I.turnedNew (t' := tk + 1) (ch := [e, it]) (fun b ob hb q => (sb.2 b (fun z => hb (by simp [z]))).trans (hk b ob (fun z => hb (by simp [z])) (fun z => hb (by simp [z])) q)) hf (Nat.le_refl _) new
    refine ⟨.ref s.heap.objs.size, _, I1, rfl, ⟨_, x, rfl, I.hok.fresh (Nat.le_refl _), rfl, fun ys hy => by rw [seqX_inj I hy hq]; exact hx⟩, ⟨⟨w1, ?_⟩, hit'.1.at fun o q => (sb.2 it (Ne.symm hne)).trans q, hne⟩, fun b hb => ?_⟩
    · have e1 : ((i + 1 : Nat) : Int) = (i : Int) + 1 := by omega
      rw [e1]; exact he'
    · have hb' : b < s.heap.objs.size := by
        have e' : b = e ∨ b = it := by simpa using hb
        rcases e' with z | z
        · rw [z]; exact hel
        · rw [z]; exact hil
      rw [upd_ne (Nat.ne_of_lt hb')]
      exact (hf b hb).1
  done := by
    intro X hP hw hK hc i pins s σ H E I hf st hg
    subst hP hw hK
    obtain ⟨⟨old, he⟩, hit, hne⟩ := st
    obtain ⟨xs, hq, hx⟩ := hg
    obtain ⟨its, rv, p1, _⟩ := seqX I hq
    obtain ⟨f0, f1, f2, f3, f4, f5⟩ := hf it (by simp)
    have hl := rv.length
    obtain ⟨n1, P1, St1, D1, a1, b1, c1⟩ := drawsAt (prog := X.prog) (w := X.w) (A := X.A.in1) (I.ok.hd hc) p it a ne1 its.toArray i
    have en : i = n1 := b1 (by simp; omega)
    have st1 : St1 n1 s.heap := by rw [← en]; exact c1 _ hit p1
    exact wpAny_pyNext_enum_endD D1 he st1 fun h' eb => ⟨rfl, I.turned (t' := s.toks) (fun b o hb q => eb b o hb q) f0 f1 f3 f4 f5⟩
  self := fun A i s Q E st h => let ⟨⟨_, he⟩, _⟩ := st; wpAny_pyIter_enum he h
def iEnumX (K : PySem.W.Frag) (ta : TA) : TI := fun σ H R => ta σ H fun vs H1 => ∃ p a xs, vs = [.ref a] ∧ SqX K p H1 a xs ∧ R (IteX K p a) H1
theorem pi_enumX {X : Cx} {e : Expr} {ta : TA} {p pos tpos : Pos} {elts : List Expr} {kk : Nat} (hg : Gl X "enumerate") (hm : X.mg "enumerate" = none) (ha : PA X [e] ta) (hs : starEach [e] X.env = [(false, eval e X.env)] := by rfl) :
    PI X (.Tuple elts kk tpos) (.Call (.Name "enumerate" p) [e] [] pos) (iEnumX X.K ta) := by
  refine ⟨fun pins s σ H R I h => ?_⟩
  refine Call_ (ld_blt I hg hm boot_enumerate (PyProof.Rows.callWith_type1 (thn (ha.run pos pins s σ H _ I h) fun us s1 ⟨vs, H1, I1, r1, q1⟩ => ?_) hs rfl))
  obtain ⟨p, a, xs, ex, hq, q⟩ := q1
  subst ex
  cases r1 with
  | cons r rr =>
    cases rr
    cases r
    obtain ⟨its, rv, p', lt⟩ := seqX I1 hq
    refine enumerate_begins (beginsX p a its.toArray) p' fun h' he hit hsz hk => wpAny_pyIter_enum he ?_
    have I2 : Inv X pins σ H1 { s1 with heap := h' } := I1.kept (t' := s1.toks) hk
    have lt' : a < s1.heap.objs.size := lt
    refine ⟨s1.heap.objs.size + 1, [s1.heap.objs.size + 1, s1.heap.objs.size], _, _, H1, rfl, I2, turn_enumX a (s1.heap.objs.size + 1) s1.heap.objs.size (Nat.ne_of_lt lt') (Nat.ne_of_lt (Nat.lt_succ_of_lt lt')), ⟨⟨.none, he⟩, itOb_is hit, Nat.succ_ne_self _⟩, fun b hb => ?_, q⟩
    have e' : b = s1.heap.objs.size + 1 ∨ b = s1.heap.objs.size := by simpa using hb
    have hle : s1.heap.objs.size ≤ b := by
      rcases e' with z | z
      · rw [z]; exact Nat.le_add_right _ _
      · rw [z]; exact Nat.le_refl _
    exact I1.fpOk hle (I1.hok.fresh hle)
section
variable {X : Cx} {a : Expr} {ta : TE3} {p pos : Pos}
def xEnumX (t : TE3) : TI3 := fun r R => t r fun x r' => ∃ l, (seqOf x).map (·.2) = some l ∧ R (enumD l) r'
theorem i3_enumX {tpos : Pos} {elts : List Expr} {kk : Nat} (hg : Gl X "enumerate") (hm : X.mg "enumerate" = none) (ha : R3 X a ta) (hs : starEach [a] X.env = [(false, eval a X.env)] := by rfl) (hs2 : starEach [a] X.env = (false, eval a X.env) :: starEach [] X.env := by rfl) :
    I3 X (.Tuple elts kk tpos) (.Call (.Name "enumerate" p) [a] [] pos) (xEnumX ta) := by
  obtain ⟨te, ee, se⟩ := ha.ex
  refine ⟨_, pi_enumX hg hm (pa_cons ee pa_nil hs2) hs, fun G Z H ks vs r s R Q3 st ht k => se G Z H ks vs r s _ _ st ht fun Z1 H1 x v r1 g1 st1 pv q => ?_⟩
  obtain ⟨l, e1, q⟩ := q
  cases sx : seqOf x with
  | none => rw [sx] at e1; cases e1
  | some bl =>
    obtain ⟨b1, l'⟩ := bl
    rw [sx] at e1; cases e1
    obtain ⟨a1, xs, rfl, hs1, ha1⟩ := seqOf_sq sx pv
    refine ⟨b1, a1, xs, rfl, hs1 _ st1.zh, k Z1 H1 _ _ r1 g1 st1 (fun Z' H' i z zh => ⟨fun x hx => ?_, fun hi => ?_⟩) q⟩
    · obtain ⟨y, e1, rfl⟩ := enumD_get hx
      obtain ⟨vy, f1, d1⟩ := dpa_get ha1 e1
      refine ⟨⟨xs, vy, hs1 _ (z.trans zh), f1⟩, fun v' H' ⟨T0, x', h1, h2, h3, h4⟩ => .inr ⟨T0, _, h2, h3, ?_⟩⟩
      have i1 := h4 xs (hs1 _ (z.trans zh))
      rw [f1] at i1; cases i1
      rw [h1]
      have s : Sub Z' (upd Z' T0 (.tup [.int (i : Nat), vy])) := fun a o e => by rw [upd_ne (fun q => by rw [q] at e; have := zh _ _ e; rw [h2] at this; cases this)]; exact e
      exact .tup upd_same (.cons (.int _) (.cons (dp_mono s _ _ (dp_mono z _ _ d1)) .nil))
    · exact ⟨xs, hs1 _ (z.trans zh), by rw [← dpa_len ha1]; rw [enumD_len] at hi; exact hi⟩
end
end L3
namespace L3
open PySem PySem.Spec PyProof.Rows L2
/-! % by any divisor but 0 -/
section
variable {X : Cx} {a b : Expr} {ta tb : TE3} {pos : Pos}
abbrev kModF : C2 := cI (fun _ j => j ≠ 0) fun i j => .int (i.fmod j)
theorem r3_modF (ha : R3 X a ta) (hb : R3 X b tb) : R3 X (.BinOp a .Mod b pos) (x2 kModF ta tb) := r3_op op_modN (con_I (fun _ _ h => h) fun _ _ _ => rfl) ha hb
end
end L3
namespace L3
open PySem PySem.Spec PyProof.Rows L2
theorem le_sz0 : (0 ≤ sizeLine) = True := eq_true (by decide)
theorem le_sz1 : (1 ≤ sizeLine) = True := eq_true (by decide)
theorem le_sz2 : (2 ≤ sizeLine) = True := eq_true (by decide)
theorem le_sz3 : (3 ≤ sizeLine) = True := eq_true (by decide)
theorem le_sz4 : (4 ≤ sizeLine) = True := eq_true (by decide)
theorem le_sz5 : (5 ≤ sizeLine) = True := eq_true (by decide)
theorem le_sz6 : (6 ≤ sizeLine) = True := eq_true (by decide)
theorem le_sz7 : (7 ≤ sizeLine) = True := eq_true (by decide)
theorem le_sz8 : (8 ≤ sizeLine) = True := eq_true (by decide)
theorem le_sz9 : (9 ≤ sizeLine) = True := eq_true (by decide)
theorem lt_sz0 : (0 < sizeLine) = True := eq_true (by decide)
theorem shp_int (i : Int) : SeqAt.shaped (.int i) = true := rfl
theorem shp_bool (i : Bool) : SeqAt.shaped (.bool i) = true := rfl
theorem shp_none : SeqAt.shaped .none = true := rfl
theorem shp_nilL : SeqAt.shaped (.list []) = true := rfl
theorem shp_nilT : SeqAt.shaped (.tuple []) = true := rfl
theorem eqv_nn : PyData.eqv (.list []) (.list []) = true := by decide
theorem pz {j : Int} (h : 0 < j := by decide) : 0 < j := h
theorem nd0 : ([] : List Nat).Nodup := List.nodup_nil
theorem nd1 {i : Nat} : [i].Nodup := by simp
theorem sz (n : Nat) (h : n ≤ 1000 := by decide) : n ≤ sizeLine := Nat.le_trans h (by decide)
theorem dT {p : Prop} [Decidable p] (h : decide p = true) : p := of_decide_eq_true h
theorem dF {p : Prop} [Decidable p] (h : decide p = false) : ¬ p := of_decide_eq_false h
local macro_rules | `(tactic| wtm_at "sh") => `(tactic| conv => whnf)
/-! ## sizes, data -/
theorem get_map {α : Type} {f : α → PyData} {l : List α} {i : Nat} {x : PyData} (h : (l.map f)[i]? = some x) : ∃ a, l[i]? = some a ∧ x = f a ∧ a ∈ l := by
  rw [List.getElem?_map] at h
  cases e : l[i]? with
  | none => rw [e] at h; cases h
  | some a => rw [e] at h; exact ⟨a, rfl, (Option.some.inj h).symm, List.mem_of_getElem? e⟩
/-- below 2 ^ n -/
def Sz (n : Nat) (i : Int) : Prop := i.natAbs < 2 ^ n
theorem Sz.log {n : Nat} {i : Int} (h : Sz n i) : i.natAbs.log2 ≤ n := by
  by_cases e : i.natAbs = 0
  · rw [e]; exact Nat.zero_le _
  · exact Nat.le_of_lt_succ (Nat.lt_succ_of_lt ((Nat.log2_lt e).mpr h))
theorem Sz.mono {n m : Nat} {i : Int} (h : Sz n i) (k : n ≤ m) : Sz m i := Nat.lt_of_lt_of_le h (Nat.pow_le_pow_right (by decide) k)
theorem Sz.mul {n m : Nat} {i j : Int} (h : Sz n i) (k : Sz m j) : Sz (n + m) (i * j) := by
  unfold Sz at *
  rw [Int.natAbs_mul, Nat.pow_add]
  exact Nat.mul_lt_mul'' h k
theorem Sz.add {n : Nat} {i j : Int} (h : Sz n i) (k : Sz n j) : Sz (n + 1) (i + j) := by
  unfold Sz at *
  rw [Nat.pow_succ]
  omega
theorem Sz.sub {n : Nat} {i j : Int} (h : Sz n i) (k : Sz n j) : Sz (n + 1) (i - j) := by
  unfold Sz at *
  rw [Nat.pow_succ]
  omega
theorem Sz.neg {n : Nat} {i : Int} (h : Sz n i) : Sz n (-i) := by
  unfold Sz at *
  rw [Int.natAbs_neg]; exact h
theorem Sz.le {n : Nat} {i j : Int} (h : Sz n j) (k : i.natAbs ≤ j.natAbs) : Sz n i := Nat.lt_of_le_of_lt k h
theorem mulOk {n m : Nat} {i j : Int} (h : Sz n i) (k : Sz m j) (hn : n + m < 1000000) : MulOk i j := .inr (by
  have h1 := h.log
  have h2 := k.log
  unfold CMulW
  omega)
theorem mulOkL {i j : Int} (h : -(2 ^ 64) < i) (k : i < 2 ^ 64) : MulOk i j := .inl (.inl ⟨h, k⟩)
theorem mulOkR {i j : Int} (h : -(2 ^ 64) < j) (k : j < 2 ^ 64) : MulOk i j := .inl (.inr ⟨h, k⟩)
theorem divOk {n : Nat} {i j : Int} (h0 : 0 < j) (h : Sz n j) (hn : n < 9000) : CDivW i j := ⟨h0, Nat.lt_of_le_of_lt h.log hn⟩
theorem Sz.div {n : Nat} {i j : Int} (h : Sz n i) (h0 : 0 < j) : Sz n (i / j) := by
  refine h.le ?_
  have h1 : (i / j).natAbs ≤ i.natAbs := by
    rcases Int.lt_or_le i 0 with hi | hi
    · have a1 : i / j < 0 := Int.ediv_neg_of_neg_of_pos hi h0
      have a2 : i ≤ i / j := by
        have := Int.mul_ediv_add_emod i j
        have h3 := Int.emod_nonneg i (by omega : j ≠ 0)
        have h4 : j * (i / j) ≤ i / j := by
          have : (j - 1) * (i / j) ≤ 0 := Int.mul_nonpos_of_nonneg_of_nonpos (by omega) (by omega)
          rw [Int.sub_mul] at this
          omega
        have h5 := Int.emod_lt_of_pos i h0
        have h6 : j * (i / j) > i - j := by omega
        have h7 : j * (i / j) ≥ j * i := Int.mul_le_mul_of_nonneg_left (by
          have := Int.le_ediv_of_mul_le (a := i) (b := i) h0 (by
            have : i * j ≤ i * 1 := Int.mul_le_mul_of_nonpos_left (by omega) (by omega)
            omega)
          exact this) (by omega)
        exact Int.le_ediv_of_mul_le h0 (by
          have : i * j ≤ i * 1 := Int.mul_le_mul_of_nonpos_left (by omega) (by omega)
          omega)
      omega
    · have a1 : 0 ≤ i / j := Int.ediv_nonneg hi (by omega)
      have a2 : i / j ≤ i := Int.ediv_le_self j hi
      omega
  exact h1
/-- an asking -/
abbrev asD (l : List (Int × Int)) : PyData := .tuple (l.map prI)
/-- its numbers: below from 1 on, none too long -/
def OkA (l : List (Int × Int)) : Prop := ∀ p ∈ l, 0 < p.2 ∧ Sz 2000 p.1 ∧ Sz 2000 p.2

/-! ## near.py -/
theorem gcd_step (a b : Int) : Int.gcd b (a % b) = Int.gcd a b := by
  rw [Int.emod_def, Int.gcd_sub_mul_left_right, Int.gcd_comm]
/-- in least numbers -/
def inL (a b : Int) : Int × Int := (a / Int.gcd a b, b / Int.gcd a b)
def N_in_least : List Str := ["above", "below", "one", "other"]
def body_in_least : TS3 := (xSeq (xPar 2 3 (xCons (xD (x1 cAbs (xView 0))) (xCons (xMove 1) xNil)))
  (xSeq (xWhile (xTest (x2 kGt (xView 3) (xC (.int 0)))) (xPar 2 3 (xCons (xMove 3) (xCons (xD (x2 kMod (xView 2) (xView 3))) xNil))))
  (xRet (xTup (xCons (xD (x2 kDiv (xView 0) (xView 2))) (xCons (xD (x2 kDiv (xView 1) (xView 2))) xNil))))))

def sp_in_least : Sp3 := fun ts Q _ => ∃ a b, ts = [.d (.int a), .d (.int b)] ∧ 0 < b ∧ Sz 8000 b ∧ Q (.d (prI (inL a b))) ts
theorem v_in_least (ts Q E) (h : sp_in_least ts Q E) : body_in_least { nx := fun r => finOk ts r ∧ Q (.d .none) (finF ts r), rt := fun x r => finOk ts r ∧ Q x (finF ts r) } (start3 N_in_least ts) := by
  obtain ⟨a, b, rfl, hb, sb, q⟩ := h
  refine ⟨fun m r => ∃ x y : Int, r = [some (.d (.int a)), some (.d (.int b)), some (.d (.int x)), some (.d (.int y))] ∧ 0 ≤ x ∧ 0 ≤ y ∧ Int.gcd x y = Int.gcd a b ∧ m = y.toNat ∧ (x = 0 → 0 < y), ⟨_, _, _, rfl, by omega, by omega, by simp [Int.gcd], rfl, fun _ => hb⟩, fun m r hW => ?_⟩
  obtain ⟨x, y, rfl, hx, hy, hg, rfl, h0⟩ := hW
  refine ⟨fun hc => ?_, fun hc => ?_⟩
  · have hy0 : 0 < y := dT hc
    refine ⟨hy0, _, ?_, _, _, rfl, hy, Int.emod_nonneg _ (by omega), ?_, rfl, fun e => by omega⟩
    · have := Int.emod_lt_of_pos x hy0
      omega
    · rw [gcd_step, hg]
  · have hy0 : ¬ 0 < y := dF hc
    have e0 : y = 0 := by omega
    subst e0
    have hx1 : 0 < x := by
      rcases Int.lt_or_le 0 x with h | h
      · exact h
      · exact absurd (h0 (by omega)) (by omega)
    have hg2 : (Int.gcd a b : Int) = x := by
      rw [← hg, Int.gcd_zero_right]
      omega
    have hle : (Int.gcd a b : Int) ≤ b := by
      have := Int.gcd_dvd_right (a := a) (b := b)
      exact Int.le_of_dvd hb this
    have sx : CDivW a x := divOk hx1 (sb.le (by omega)) (by decide)
    have sx2 : CDivW b x := divOk hx1 (sb.le (by omega)) (by decide)
    unfold inL at q
    rw [hg2] at q
    exact ⟨sx, sx2, sz 2, ⟨⟩, q⟩
def N_need_asking : List Str := ["asking", "above", "below"]
def body_need_asking : TS3 := (xIfS (xOr (xTest (x2 kEq (xView 0) (xFz (xTup xNil)))) (xTest (x2 kNe (xFz (xLc (xSeqI (xView 0)) (xGTup 2 (xGCons (xGName 1) (xGCons (xGName 2) xGNil))) (xTest (x2 kLt (xView 2) (xC (.int 1)))) (xMove 2) [1, 2])) (xFz (xLst xNil))))) xNever xNext)

def sp_need_asking : Sp3 := fun ts Q _ => ∃ l, ts = [.d (asD l)] ∧ l ≠ [] ∧ (∀ p ∈ l, 0 < p.2) ∧ Q (.d .none) ts
theorem eqv_nil {l : List PyData} (h : l ≠ []) : PyData.eqv (.tuple l) (.tuple []) = false := by
  cases l with
  | nil => exact absurd rfl h
  | cons x l => simp only [PyData.eqv, PyData.eqvAll]
theorem shp_pairs : ∀ l : List (Int × Int), PyData.canLayAll0 (l.map prI) = true ∧ PyData.depthAll (l.map prI) ≤ 1
  | [] => by simp [PyData.canLayAll0, PyData.depthAll]
  | x :: l => by
    obtain ⟨h1, h2⟩ := shp_pairs l
    refine ⟨by simp [PyData.canLayAll0, PyData.canLay0, h1], ?_⟩
    have e : PyData.depth (prI x) = 1 := by simp [PyData.depth, PyData.depthAll]
    rw [List.map_cons, PyData.depthAll, e]
    omega
theorem shp_asD (l : List (Int × Int)) : SeqAt.shaped (asD l) = true := by
  obtain ⟨h1, h2⟩ := shp_pairs l
  unfold SeqAt.shaped
  rw [Bool.and_eq_true]
  refine ⟨by simpa [PyData.canLay0] using h1, decide_eq_true ?_⟩
  rw [PyData.depth]
  omega
theorem v_need_asking (ts Q E) (h : sp_need_asking ts Q E) : body_need_asking { nx := fun r => finOk ts r ∧ Q (.d .none) (finF ts r), rt := fun x r => finOk ts r ∧ Q x (finF ts r) } (start3 N_need_asking ts) := by
  obtain ⟨l, rfl, hl, hp, q⟩ := h
  refine ⟨sz 0, shp_asD l, shp_nilT, fun hc => ?_, fun hc p => ?_⟩
  · exact absurd (show PyData.eqv (asD l) (.tuple []) = true from hc) (by rw [eqv_nil (by simpa using hl)]; decide)
  · refine ⟨fun i acc r => r = [some (.d (asD l)), none, none] ∧ acc = [], ⟨rfl, rfl⟩, fun i x acc r hx hW => ?_, fun acc r hW => ?_⟩
    · obtain ⟨rfl, rfl⟩ := hW
      obtain ⟨z, hz, rfl, hm⟩ := get_map hx
      refine ⟨rfl, fun hc => ?_, fun hc => ⟨rfl, rfl⟩⟩
      exact absurd (hp z hm) (by have := dT hc; omega)
    · obtain ⟨rfl, rfl⟩ := hW
      refine ⟨rfl, sz 0, fun p => ⟨rfl, shp_nilL, shp_nilL, fun hc => ?_, fun hc => ⟨⟨⟩, q⟩⟩⟩
      exact absurd (show (!PyData.eqv (.list []) (.list [])) = true from hc) (by decide)
def N_need_from_one : List Str := ["number"]
def body_need_from_one : TS3 := (xIfS (xTest (x2 kLt (xView 0) (xC (.int 1)))) xNever xNext)

def sp_need_from_one : Sp3 := fun ts Q _ => ∃ q, ts = [.d (.int q)] ∧ 1 ≤ q ∧ Q (.d .none) ts
theorem v_need_from_one (ts Q E) (h : sp_need_from_one ts Q E) : body_need_from_one { nx := fun r => finOk ts r ∧ Q (.d .none) (finF ts r), rt := fun x r => finOk ts r ∧ Q x (finF ts r) } (start3 N_need_from_one ts) := by
  obtain ⟨q, rfl, hq, h⟩ := h
  refine ⟨fun hc => ?_, fun hc => ⟨⟨⟩, h⟩⟩
  exact absurd hq (by have := dT hc; omega)
def N_nearest_to : List Str := ["above", "below", "whole", "rest"]
def body_nearest_to : TS3 := (xSeq (xAsg (xD (x2 kDiv (xView 0) (xView 1))) (xGName 2))
  (xSeq (xAsg (xD (x2 kSub (xView 0) (x2 kMul (xView 2) (xView 1)))) (xGName 3))
  (xSeq (xIfS (xTest (x2 kLe (x2 kMul (xC (.int 2)) (xView 3)) (xView 1))) (xRet (xTup (xCons (xMove 2) (xCons (xMove 3) xNil)))) xNext)
  (xRet (xTup (xCons (xD (x2 kAdd (xView 2) (xC (.int 1)))) (xCons (xD (x2 kSub (xView 1) (xView 3))) xNil)))))))

/-- the nearest whole number, the lesser one of two as near, and how far off -/
def near (a b : Int) : Int × Int := if 2 * (a - a / b * b) ≤ b then (a / b, a - a / b * b) else (a / b + 1, b - (a - a / b * b))
def sp_nearest_to : Sp3 := fun ts Q _ => ∃ a b, ts = [.d (.int a), .d (.int b)] ∧ 0 < b ∧ Sz 8000 a ∧ Sz 8000 b ∧ Q (.d (prI (near a b))) ts
theorem v_nearest_to (ts Q E) (h : sp_nearest_to ts Q E) : body_nearest_to { nx := fun r => finOk ts r ∧ Q (.d .none) (finF ts r), rt := fun x r => finOk ts r ∧ Q x (finF ts r) } (start3 N_nearest_to ts) := by
  obtain ⟨a, b, rfl, hb, sa, sb, q⟩ := h
  refine ⟨divOk hb sb (by decide), mulOk (sa.div hb) sb (by decide), mulOkL (by decide) (by decide), fun hc => ?_, fun hc => ?_⟩
  · unfold near at q
    rw [if_pos (dT hc)] at q
    exact ⟨sz 2, ⟨⟩, q⟩
  · unfold near at q
    rw [if_neg (dF hc)] at q
    exact ⟨sz 2, ⟨⟩, q⟩
def N_is_more : List Str := ["one", "other"]
def body_is_more : TS3 := (xRet (xD (x2 kGt (x2 kMul (x2 cIx (xView 0) (xC (.int 0))) (x2 cIx (xView 1) (xC (.int 1)))) (x2 kMul (x2 cIx (xView 1) (xC (.int 0))) (x2 cIx (xView 0) (xC (.int 1)))))))

def isMore (x y : Int × Int) : Bool := decide (y.1 * x.2 < x.1 * y.2)
def sp_is_more : Sp3 := fun ts Q _ => ∃ x y, ts = [.d (prI x), .d (prI y)] ∧ Sz 8000 x.1 ∧ Sz 8000 x.2 ∧ Sz 8000 y.1 ∧ Sz 8000 y.2 ∧ Q (.d (.bool (isMore x y))) ts
theorem v_is_more (ts Q E) (h : sp_is_more ts Q E) : body_is_more { nx := fun r => finOk ts r ∧ Q (.d .none) (finF ts r), rt := fun x r => finOk ts r ∧ Q x (finF ts r) } (start3 N_is_more ts) := by
  obtain ⟨x, y, rfl, h1, h2, h3, h4, q⟩ := h
  exact ⟨_, rfl, _, rfl, mulOk h1 h4 (by decide), _, rfl, _, rfl, mulOk h3 h2 (by decide), ⟨⟩, q⟩
def N_near_row : List Str := ["asking", "q", "row", "miss", "above", "below", "whole", "off"]
def body_near_row : TS3 := (xSeq (xDrop (xCall sp_need_asking xNoE (xArg (xView 0) xANil)))
  (xSeq (xDrop (xCall sp_need_from_one xNoE (xArg (xView 1) xANil)))
  (xSeq (xAsg (xLst xNil) (xGName 2))
  (xSeq (xAsg (xTup (xCons (xD (xC (.int 0))) (xCons (xD (xC (.int 1))) xNil))) (xGName 3))
  (xSeq (xFor (xSeqI (xView 0)) (xGTup 2 (xGCons (xGName 4) (xGCons (xGName 5) xGNil))) (xSeq (xAsg (xCall sp_nearest_to xNoE (xArg (x2 kMul (xView 1) (xView 4)) (xArg (xView 5) xANil))) (xGTup 2 (xGCons (xGName 6) (xGCons (xGName 7) xGNil))))
  (xSeq (xDrop (xApp 2 (xMove 6)))
  (xIfS (xTest (xFz (xCall sp_is_more xNoE (xArg (xFz (xTup (xCons (xMove 7) (xCons (xMove 5) xNil)))) (xArg (xView 3) xANil))))) (xAsg (xTup (xCons (xMove 7) (xCons (xMove 5) xNil))) (xGName 3)) xNext))))
  (xRet (xTup (xCons (xD (x1 cTup (xView 2))) (xCons (xCall sp_in_least xNoE (xArg (x2 cIx (xView 3) (xC (.int 0))) (xArg (x2 cIx (xView 3) (xC (.int 1))) xANil))) xNil)))))))))

/-- the greatest of the distances, a fraction, not in least numbers -/
def missS (q : Int) (m : Int × Int) (p : Int × Int) : Int × Int := if isMore ((near (q * p.1) p.2).2, p.2) m then ((near (q * p.1) p.2).2, p.2) else m
def missF (l : List (Int × Int)) (q : Int) : Int × Int := l.foldl (missS q) (0, 1)
def rowF (l : List (Int × Int)) (q : Int) : List Int := l.map fun p => (near (q * p.1) p.2).1
def missL (l : List (Int × Int)) (q : Int) : Int × Int := inL (missF l q).1 (missF l q).2
/-- what near_row tells -/
def nrD (l : List (Int × Int)) (q : Int) : PyData := .tuple [.tuple ((rowF l q).map PyData.int), prI (missL l q)]
theorem near_off {a b : Int} (hb : 0 < b) : 0 ≤ (near a b).2 ∧ (near a b).2 ≤ b := by
  have h1 := Int.emod_nonneg a (by omega : b ≠ 0)
  have h2 := Int.emod_lt_of_pos a hb
  have h3 : a - a / b * b = a % b := by
    have := Int.mul_ediv_add_emod a b
    rw [Int.mul_comm b] at this
    omega
  unfold near
  rw [h3]
  split
  · exact ⟨h1, by show a % b ≤ b; omega⟩
  · constructor
    · show 0 ≤ b - a % b; omega
    · show b - a % b ≤ b; omega
/-- a miss on the way: its number below is 1 or one of the asking's -/
theorem missF_ok {l : List (Int × Int)} {q : Int} : ∀ {m : Int × Int}, (∀ p ∈ l, 0 < p.2) → 0 ≤ m.1 → m.1 ≤ m.2 → 0 < m.2 → (m.2 = 1 ∨ ∃ p, p ∈ l ∧ m.2 = p.2) → ∀ l', l' ⊆ l → 0 ≤ (l'.foldl (missS q) m).1 ∧ (l'.foldl (missS q) m).1 ≤ (l'.foldl (missS q) m).2 ∧ 0 < (l'.foldl (missS q) m).2 ∧ ((l'.foldl (missS q) m).2 = 1 ∨ ∃ p, p ∈ l ∧ (l'.foldl (missS q) m).2 = p.2) := by
  intro m hp h0 h1 h2 h3 l'
  induction l' generalizing m with
  | nil => intro _; exact ⟨h0, h1, h2, h3⟩
  | cons p l' ih =>
    intro hs
    have hm : p ∈ l := hs (List.mem_cons_self ..)
    rw [List.foldl_cons]
    have hn := near_off (a := q * p.1) (hp p hm)
    unfold missS
    split
    · exact ih hn.1 hn.2 (hp p hm) (.inr ⟨p, hm, rfl⟩) fun x hx => hs (List.mem_cons_of_mem _ hx)
    · exact ih h0 h1 h2 h3 fun x hx => hs (List.mem_cons_of_mem _ hx)
theorem missF_take {l : List (Int × Int)} {q : Int} (hp : ∀ p ∈ l, 0 < p.2) (i : Nat) : 0 ≤ (missF (l.take i) q).1 ∧ (missF (l.take i) q).1 ≤ (missF (l.take i) q).2 ∧ 0 < (missF (l.take i) q).2 ∧ ((missF (l.take i) q).2 = 1 ∨ ∃ p, p ∈ l ∧ (missF (l.take i) q).2 = p.2) :=
  missF_ok (l := l) (m := (0, 1)) hp (by decide) (by decide) (by decide) (.inl rfl) _ (fun x hx => List.mem_of_mem_take hx)
theorem take_succ {α : Type} {l : List α} {i : Nat} {x : α} (h : l[i]? = some x) : l.take (i + 1) = l.take i ++ [x] := by
  rw [List.take_add_one, h]; rfl
def sp_near_row : Sp3 := fun ts Q _ => ∃ l q, ts = [.d (asD l), .d (.int q)] ∧ l ≠ [] ∧ l.length ≤ 1000 ∧ OkA l ∧ 1 ≤ q ∧ Sz 2000 q ∧ Q (.d (nrD l q)) ts
theorem v_near_row (ts Q E) (h : sp_near_row ts Q E) : body_near_row { nx := fun r => finOk ts r ∧ Q (.d .none) (finF ts r), rt := fun x r => finOk ts r ∧ Q x (finF ts r) } (start3 N_near_row ts) := by
  obtain ⟨l, q, rfl, hl, hlen, ok, hq, sq, h⟩ := h
  refine ⟨nd0, l, rfl, hl, fun p hp => (ok p hp).1, nd0, q, rfl, hq, sz 0, fun p => ⟨sz 2, ?_⟩⟩
  refine ⟨fun i r => ∃ a b c d, r = [some (.d (asD l)), some (.d (.int q)), some (.own p ((rowF (l.take i) q).map fun n => T.d (.int n))), some (.d (prI (missF (l.take i) q))), a, b, c, d], ⟨_, _, _, _, rfl⟩, fun i x r hx hW => ?_, fun r hW => ?_⟩
  · obtain ⟨a, b, c, d, rfl⟩ := hW
    obtain ⟨z, hz, rfl, hm⟩ := get_map hx
    obtain ⟨hb, sa, sb⟩ := ok z hm
    refine ⟨rfl, mulOk sq sa (by decide), nd0, _, _, rfl, hb, (sq.mul sa).mono (by decide), sb.mono (by decide), rfl, ?_⟩
    have m0 := missF_take (q := q) (fun p hp => (ok p hp).1) i
    have sm : Sz 2000 (missF (l.take i) q).2 := by
      rcases m0.2.2.2 with e | ⟨p, hp, e⟩
      · rw [e]; exact (show Sz 2 1 from by unfold Sz; decide).mono (by decide)
      · rw [e]; exact (ok p hp).2.2
    have sm1 : Sz 2000 (missF (l.take i) q).1 := sm.le (by omega)
    have hn := near_off (a := q * z.1) hb
    refine ⟨Nat.lt_of_le_of_lt (by rw [List.length_map]; unfold rowF; rw [List.length_map, List.length_take]; omega) (show 1000 < sizeLine by decide), sz 2, nd0, ((near (q * z.1) z.2).2, z.2), missF (l.take i) q, rfl, (sb.le (by show (near (q * z.1) z.2).2.natAbs ≤ _; omega)).mono (by decide), sb.mono (by decide), sm1.mono (by decide), sm.mono (by decide), fun hc => ?_, fun hc => ?_⟩
    · have e1 : missF (l.take (i + 1)) q = ((near (q * z.1) z.2).2, z.2) := by
        unfold missF
        rw [take_succ hz, List.foldl_append]
        show missS q (missF (l.take i) q) z = _
        unfold missS
        rw [if_pos hc]
      have e2 : rowF (l.take (i + 1)) q = rowF (l.take i) q ++ [(near (q * z.1) z.2).1] := by
        unfold rowF
        rw [take_succ hz, List.map_append]
        rfl
      refine ⟨sz 2, some (.d (.int z.1)), some (.d (.int z.2)), some (.d (.int (near (q * z.1) z.2).1)), some (.d (.int (near (q * z.1) z.2).2)), ?_⟩
      rw [e1, e2, List.map_append]
      rfl
    · have e1 : missF (l.take (i + 1)) q = missF (l.take i) q := by
        unfold missF
        rw [take_succ hz, List.foldl_append]
        show missS q (missF (l.take i) q) z = missF (l.take i) q
        unfold missS
        rw [if_neg (by rw [show isMore _ _ = false from hc]; decide)]
      have e2 : rowF (l.take (i + 1)) q = rowF (l.take i) q ++ [(near (q * z.1) z.2).1] := by
        unfold rowF
        rw [take_succ hz, List.map_append]
        rfl
      refine ⟨some (.d (.int z.1)), some (.d (.int z.2)), some (.d (.int (near (q * z.1) z.2).1)), some (.d (.int (near (q * z.1) z.2).2)), ?_⟩
      rw [e1, e2, List.map_append]
      rfl
  · obtain ⟨a, b, c, d, rfl⟩ := hW
    rw [List.length_map, List.take_length]
    have m0 := missF_take (q := q) (fun p hp => (ok p hp).1) l.length
    rw [List.take_length] at m0
    have sm : Sz 2000 (missF l q).2 := by
      rcases m0.2.2.2 with e | ⟨p, hp, e⟩
      · rw [e]; exact (show Sz 2 1 from by unfold Sz; decide).mono (by decide)
      · rw [e]; exact (ok p hp).2.2
    refine ⟨alld_map _ _, _, rfl, _, rfl, nd0, _, _, rfl, m0.2.2.1, sm.mono (by decide), sz 2, ⟨⟩, ?_⟩
    have e : fzs ((rowF l q).map fun n => T.d (.int n)) = (rowF l q).map PyData.int := fzs_map _ _
    unfold nrD missL at h
    rw [← e] at h
    exact h
end L3
namespace L3
open PySem PySem.Spec PyProof.Rows L2
local macro_rules | `(tactic| wtm_at "sh") => `(tactic| conv => whnf)
/-! ## the deck -/
theorem getI_of {α : Type} {l : List α} {i : Int} (h0 : 0 ≤ i) (h1 : i < l.length) : ∃ x, getI l i = some x ∧ l[i.toNat]? = some x ∧ x ∈ l := by
  unfold getI
  rw [if_pos h0]
  have : i.toNat < l.length := by omega
  exact ⟨l[i.toNat], List.getElem?_eq_getElem this, List.getElem?_eq_getElem this, List.getElem_mem this⟩
theorem setI_in {α : Type} {l : List α} {i : Int} (x : α) (h0 : 0 ≤ i) (h1 : i < l.length) : setI l i x = some (l.set i.toNat x) := by
  unfold setI
  rw [if_pos h0, if_pos h1]
def DeckOk (n : Nat) (l : List T) : Prop := ∃ (c : Addr) (cells : List Int) (i s : Int), l = [.own c (cells.map fun x => .d (.int x)), .d (.int i), .d (.int s)] ∧ 0 < cells.length ∧ cells.length ≤ 64 ∧ 0 ≤ i ∧ i + n ≤ 1000000000 ∧ 0 ≤ s ∧ s < 2147483648
theorem DeckOk.mono {n m : Nat} {l : List T} (h : DeckOk n l) (k : m ≤ n) : DeckOk m l := by
  obtain ⟨c, cells, i, s, e, h1, h2, h3, h4, h5⟩ := h
  exact ⟨c, cells, i, s, e, h1, h2, h3, by omega, h5⟩
def N_law_take : List Str := ["_law_deck_here", "_law_many", "_law_at", "_law_cell", "_law_one"]
def body_law_take : TS3 := (xSeq (xAsg (xD (x2 kMod (x2 cIx (xView 0) (xC (.int 1))) (x1 cLen (x2 cIx (xView 0) (xC (.int 0)))))) (xGName 2))
  (xSeq (xAsg (xD (x2 kAdd (x2 cIx (xView 0) (xC (.int 1))) (xC (.int 1)))) (xGSub 0 (xC (.int 1))))
  (xSeq (xAsg (xD (x2 cIx (x2 cIx (xView 0) (xC (.int 0))) (xView 2))) (xGName 3))
  (xSeq (xIfS (xOr (xTest (x2 kEqI (xView 3) (xC (.int 0)))) (xTest (x2 kEqI (xView 3) (xNeg (xC (.int 1)))))) (xSeq (xAsg (xD (x2 kMod (x2 kMul (x2 kMod (x2 kAdd (x2 cIx (xView 0) (xC (.int 2))) (x2 kMul (xC (.int 7919)) (x2 cIx (xView 0) (xC (.int 1))))) (xC (.int 2147483587))) (xC (.int 69621))) (xC (.int 2147483629)))) (xGName 4))
  (xSeq (xAsg (xD (x2 kMod (x2 kMul (x2 kMod (x2 kAdd (x2 kMul (xView 4) (xView 4)) (x2 kMul (xC (.int 31)) (x2 cIx (xView 0) (xC (.int 1))))) (xC (.int 2147483563))) (xC (.int 16807))) (xC (.int 2147483549)))) (xGName 4))
  (xRet (xD (x2 kMod (x2 kDiv (xView 4) (xC (.int 8))) (xView 1)))))) xNext)
  (xSeq (xAsg (xD (x2 kDiv (xView 3) (xView 1))) (xGSub2 0 (xC (.int 0)) (xView 2)))
  (xRet (xD (x2 kMod (xView 3) (xView 1)))))))))

/-- a digit: any number below many -/
def sp_law_take : Sp3 := fun ts Q _ => ∃ n a l m, ts = [.own a l, .d (.int m)] ∧ DeckOk (n + 1) l ∧ 0 < m ∧ m < 2 ^ 62 ∧ ∀ x l', 0 ≤ x → x < m → DeckOk n l' → Q (.d (.int x)) [.own a l', .d (.int m)]
theorem v_law_take (ts Q E) (h : sp_law_take ts Q E) : body_law_take { nx := fun r => finOk ts r ∧ Q (.d .none) (finF ts r), rt := fun x r => finOk ts r ∧ Q x (finF ts r) } (start3 N_law_take ts) := by
  obtain ⟨n, a, l, m, rfl, ⟨c, cells, i, s, rfl, h1, h2, h3, h4, h5, h6⟩, hm, hm2, q⟩ := h
  have hlen : ((cells.map fun x => T.d (.int x)).length : Int) = cells.length := by rw [List.length_map]
  have e0 : (0 : Int) < (cells.map fun x => T.d (.int x)).length := by rw [hlen]; omega
  have e1 := Int.emod_nonneg i (show ((cells.map fun x => T.d (.int x)).length : Int) ≠ 0 by omega)
  have e2 := Int.emod_lt_of_pos i e0
  obtain ⟨t, ht, ht2, htm⟩ := getI_of e1 e2
  obtain ⟨cell, _, rfl⟩ := List.mem_map.mp htm
  refine ⟨rfl, _, rfl, rfl, _, rfl, e0, rfl, _, rfl, _, rfl, rfl, _, rfl, rfl, _, ht, ?_⟩
  have b1 : ∀ x : Int, -(2 ^ 64) < x % 2147483629 ∧ x % 2147483629 < 2 ^ 64 := fun x => by
    have := Int.emod_nonneg x (show (2147483629 : Int) ≠ 0 by decide)
    have := Int.emod_lt_of_pos x (show (0 : Int) < 2147483629 by decide)
    omega
  have sm : Sz 62 m := by unfold Sz; omega
  have fin : ∀ (x : Int), 0 ≤ x % m ∧ x % m < m := fun x => ⟨Int.emod_nonneg _ (by omega), Int.emod_lt_of_pos _ hm⟩
  have dk : DeckOk n [.own c (cells.map fun x => .d (.int x)), .d (.int (i + 1)), .d (.int s)] := ⟨c, cells, i + 1, s, rfl, h1, h2, by omega, by omega, h5, h6⟩
  refine ⟨fun _ => ⟨fun _ => ?_, nofun⟩, fun _ => ⟨fun _ => ?_, fun _ => ?_⟩⟩
  · exact ⟨rfl, _, rfl, rfl, _, rfl, mulOkL (by decide) (by decide), pz, mulOkR (by decide) (by decide), pz, mulOkL (b1 _).1 (b1 _).2, rfl, _, rfl, mulOkL (by decide) (by decide), pz, mulOkR (by decide) (by decide), pz,
      divOk (by decide) (show Sz 4 8 from by unfold Sz; decide) (by decide), hm, ⟨rfl, ⟨⟩⟩, q _ _ (fin _).1 (fin _).2 dk⟩
  · exact ⟨rfl, _, rfl, rfl, _, rfl, mulOkL (by decide) (by decide), pz, mulOkR (by decide) (by decide), pz, mulOkL (b1 _).1 (b1 _).2, rfl, _, rfl, mulOkL (by decide) (by decide), pz, mulOkR (by decide) (by decide), pz,
      divOk (by decide) (show Sz 4 8 from by unfold Sz; decide) (by decide), hm, ⟨rfl, ⟨⟩⟩, q _ _ (fin _).1 (fin _).2 dk⟩
  · refine ⟨divOk hm sm (by decide), _, _, rfl, rfl, rfl, _, setI_in _ e1 e2, _, rfl, hm, ⟨rfl, ⟨⟩⟩, q _ _ (fin _).1 (fin _).2 ⟨c, cells.set (i % ((cells.map fun x => T.d (.int x)).length : Int)).toNat (cell / m), i + 1, s, ?_, by rw [List.length_set]; exact h1, by rw [List.length_set]; exact h2, by omega, by omega, h5, h6⟩⟩
    rw [List.map_set]
    rfl
def N_law_far : List Str := ["_law_deck_here", "_law_found", "_law_k"]
def body_law_far : TS3 := (xSeq (xAsg (xD (xC (.int 0))) (xGName 1))
  (xSeq (xFor (xR1 (xC (.int 3))) (xGName 2) (xAsg (xD (x2 kAdd (x2 kMul (xView 1) (x2 kPow (xC (.int 10)) (xC (.int 6)))) (xFz (xCall sp_law_take xNoE (xIo 0 (xArg (x2 kPow (xC (.int 10)) (xC (.int 6))) xANil)))))) (xGName 1)))
  (xRet (xD (x2 kAdd (x2 kMul (xView 1) (xC (.int 10))) (xFz (xCall sp_law_take xNoE (xIo 0 (xArg (xC (.int 10)) xANil)))))))))

/-- a number below 10 ^ 19 -/
def sp_law_far : Sp3 := fun ts Q _ => ∃ n a l, ts = [.own a l] ∧ DeckOk (n + 4) l ∧ ∀ x l', 0 ≤ x → x < 10000000000000000000 → DeckOk n l' → Q (.d (.int x)) [.own a l']
theorem v_law_far (ts Q E) (h : sp_law_far ts Q E) : body_law_far { nx := fun r => finOk ts r ∧ Q (.d .none) (finF ts r), rt := fun x r => finOk ts r ∧ Q x (finF ts r) } (start3 N_law_far ts) := by
  obtain ⟨n, a, l, rfl, hd, q⟩ := h
  have p6 : CPow 10 6 := ⟨by decide, by decide, by decide⟩
  refine ⟨by decide, by decide, fun i r => i ≤ 3 ∧ ∃ l' x k, r = [some (.own a l'), some (.d (.int x)), k] ∧ DeckOk (n + 1 + (3 - i)) l' ∧ 0 ≤ x ∧ x < 10 ^ (6 * i), ⟨by decide, l, 0, none, rfl, hd, by decide, by decide⟩, fun i x r hx hW => ?_, fun r hW => ?_⟩
  · obtain ⟨hi, l', x, k, rfl, hd', h0, h1⟩ := hW
    obtain ⟨hi3, rfl⟩ := rangeI_get hx
    have hi3' : i < 3 := hi3
    have e9 : n + 1 + (3 - i) = (n + 1 + (3 - (i + 1))) + 1 := by omega
    rw [e9] at hd'
    refine ⟨p6, mulOkR (by decide) (by decide), p6, nd1, n + 1 + (3 - (i + 1)), a, l', _, rfl, hd', by decide, by decide, fun y l2 hy0 hy1 hd2 => ?_⟩
    refine ⟨by omega, l2, x * 10 ^ 6 + y, _, rfl, hd2, ?_, ?_⟩
    · have : (0 : Int) ≤ x * 10 ^ 6 := Int.mul_nonneg h0 (by decide)
      omega
    · have hy2 : y < 1000000 := hy1
      have e3 : (10 : Int) ^ (6 * (i + 1)) = 10 ^ (6 * i) * 1000000 := by
        rw [Nat.mul_add, Int.pow_add]; rfl
      rw [e3]
      have : x * 1000000 ≤ (10 ^ (6 * i) - 1) * 1000000 := Int.mul_le_mul_of_nonneg_right (by omega) (by decide)
      have e4 : (10 : Int) ^ 6 = 1000000 := by decide
      rw [e4]
      omega
  · obtain ⟨hi, l', x, k, rfl, hd', h0, h1⟩ := hW
    have h2 : x < 1000000000000000000 := h1
    refine ⟨mulOkR (by decide) (by decide), nd1, n, a, l', _, rfl, hd', by decide, by decide, fun y l2 hy0 hy1 hd2 => ?_⟩
    have hy2 : y < 10 := hy1
    exact ⟨⟨rfl, ⟨⟩⟩, q _ l2 (by omega) (by omega) hd2⟩
def N_law_below_1 : List Str := ["_law_deck_here", "_law_way"]
def body_law_below_1 : TS3 := (xSeq (xAsg (xCall sp_law_take xNoE (xIo 0 (xArg (xC (.int 5)) xANil))) (xGName 1))
  (xSeq (xIfS (xTest (x2 kLt (xView 1) (xC (.int 4)))) (xRet (xD (x2 kAdd (xC (.int 1)) (xFz (xCall sp_law_take xNoE (xIo 0 (xArg (x2 cIx (xFz (xLst (xCons (xD (xC (.int 12))) (xCons (xD (xC (.int 200))) (xCons (xD (xC (.int 3000))) (xCons (xD (x2 kPow (xC (.int 10)) (xC (.int 6)))) xNil)))))) (xView 1)) xANil))))))) xNext)
  (xRet (xD (x2 kAdd (xC (.int 1)) (xFz (xCall sp_law_far xNoE (xIo 0 xANil))))))))

/-- a number below, from 1 on -/
def sp_law_below_1 : Sp3 := fun ts Q _ => ∃ n a l, ts = [.own a l] ∧ DeckOk (n + 5) l ∧ ∀ x l', 1 ≤ x → x ≤ 10000000000000000000 → DeckOk n l' → Q (.d (.int x)) [.own a l']
theorem v_law_below_1 (ts Q E) (h : sp_law_below_1 ts Q E) : body_law_below_1 { nx := fun r => finOk ts r ∧ Q (.d .none) (finF ts r), rt := fun x r => finOk ts r ∧ Q x (finF ts r) } (start3 N_law_below_1 ts) := by
  obtain ⟨n, a, l, rfl, hd, q⟩ := h
  have p6 : CPow 10 6 := ⟨by decide, by decide, by decide⟩
  refine ⟨nd1, n + 4, a, l, 5, rfl, hd, by decide, by decide, fun w l1 hw0 hw1 hd1 => ⟨fun hc => ?_, fun hc => ?_⟩⟩
  · have hw : w < 4 := dT hc
    obtain ⟨t, ht, htm⟩ : ∃ t : Int, getI [PyData.int 12, .int 200, .int 3000, .int (10 ^ (6 : Int).toNat)] w = some (.int t) ∧ 0 < t ∧ t ≤ 1000000 := by
      have : w = 0 ∨ w = 1 ∨ w = 2 ∨ w = 3 := by omega
      rcases this with rfl | rfl | rfl | rfl
      · exact ⟨12, rfl, by decide⟩
      · exact ⟨200, rfl, by decide⟩
      · exact ⟨3000, rfl, by decide⟩
      · exact ⟨1000000, rfl, by decide⟩
    refine ⟨p6, sz 4, fun p => ⟨rfl, _, ht, nd1, n + 3, a, l1, t, rfl, hd1, htm.1, by omega, fun y l2 hy0 hy1 hd2 => ⟨⟨rfl, ⟨⟩⟩, q _ l2 (by omega) (by omega) (hd2.mono (by omega))⟩⟩⟩
  · refine ⟨nd1, n, a, l1, rfl, hd1, fun y l2 hy0 hy1 hd2 => ⟨⟨rfl, ⟨⟩⟩, q _ l2 (by omega) (by omega) hd2⟩⟩
def N_law_fraction_1 : List Str := ["_law_deck_here", "_law_below_here", "_law_way", "_law_above", "_law_size", "_law_times"]
def body_law_fraction_1 : TS3 := (xSeq (xAsg (xCall sp_law_below_1 xNoE (xIo 0 xANil)) (xGName 1))
  (xSeq (xAsg (xCall sp_law_take xNoE (xIo 0 (xArg (xC (.int 4)) xANil))) (xGName 2))
  (xSeq (xIfS (xTest (x2 kEqI (xView 2) (xC (.int 0)))) (xAsg (xCall sp_law_far xNoE (xIo 0 xANil)) (xGName 3)) (xIfS (xTest (x2 kEqI (xView 2) (xC (.int 1)))) (xAsg (xD (x2 kMod (xFz (xCall sp_law_far xNoE (xIo 0 xANil))) (xView 1))) (xGName 3)) (xIfS (xTest (x2 kEqI (xView 2) (xC (.int 2)))) (xSeq (xAsg (xD (x2 kAdd (xC (.int 1)) (xFz (xCall sp_law_take xNoE (xIo 0 (xArg (xC (.int 9)) xANil)))))) (xGName 4))
  (xAsg (xD (x2 kSub (x2 kAdd (x2 kDiv (x2 kMul (xView 1) (xFz (xCall sp_law_take xNoE (xIo 0 (xArg (x2 kAdd (xView 4) (xC (.int 1))) xANil))))) (xView 4)) (xFz (xCall sp_law_take xNoE (xIo 0 (xArg (xC (.int 3)) xANil))))) (xC (.int 1)))) (xGName 3))) (xAsg (xD (x2 kSub (x2 kAdd (x2 kDiv (xView 1) (xC (.int 2))) (xFz (xCall sp_law_take xNoE (xIo 0 (xArg (xC (.int 3)) xANil))))) (xC (.int 1)))) (xGName 3)))))
  (xSeq (xAsg (xD (x2 cIx (xFz (xLst (xCons (xD (xC (.int 1))) (xCons (xD (xC (.int 1))) (xCons (xD (x2 kAdd (xC (.int 2)) (xFz (xCall sp_law_take xNoE (xIo 0 (xArg (xC (.int 8)) xANil)))))) xNil))))) (xFz (xCall sp_law_take xNoE (xIo 0 (xArg (xC (.int 3)) xANil)))))) (xGName 5))
  (xRet (xTup (xCons (xD (x2 kMul (x2 kMul (xView 3) (xView 5)) (x2 cIx (xFz (xLst (xCons (xD (xC (.int 1))) (xCons (xD (xNeg (xC (.int 1)))) xNil)))) (xFz (xCall sp_law_take xNoE (xIo 0 (xArg (xC (.int 2)) xANil))))))) (xCons (xD (x2 kMul (xView 1) (xView 5))) xNil))))))))

def FrOk (p : Int × Int) : Prop := 0 < p.2 ∧ p.2 ≤ 100000000000000000000 ∧ -1000000000000000000000 ≤ p.1 ∧ p.1 ≤ 1000000000000000000000
def sp_law_fraction_1 : Sp3 := fun ts Q _ => ∃ n a l, ts = [.own a l] ∧ DeckOk (n + 20) l ∧ ∀ p l', FrOk p → DeckOk n l' → Q (.d (prI p)) [.own a l']
theorem three {l : List PyData} {a b c : PyData} {x : Int} (e : l = [a, b, c]) (h0 : 0 ≤ x) (h1 : x < 3) : ∃ z, getI l x = some z ∧ (z = a ∨ z = b ∨ z = c) := by
  subst e
  have : x = 0 ∨ x = 1 ∨ x = 2 := by omega
  rcases this with rfl | rfl | rfl
  · exact ⟨a, rfl, .inl rfl⟩
  · exact ⟨b, rfl, .inr (.inl rfl)⟩
  · exact ⟨c, rfl, .inr (.inr rfl)⟩
theorem two {l : List PyData} {a b : PyData} {x : Int} (e : l = [a, b]) (h0 : 0 ≤ x) (h1 : x < 2) : ∃ z, getI l x = some z ∧ (z = a ∨ z = b) := by
  subst e
  have : x = 0 ∨ x = 1 := by omega
  rcases this with rfl | rfl
  · exact ⟨a, rfl, .inl rfl⟩
  · exact ⟨b, rfl, .inr rfl⟩
theorem v_law_fraction_1 (ts Q E) (h : sp_law_fraction_1 ts Q E) : body_law_fraction_1 { nx := fun r => finOk ts r ∧ Q (.d .none) (finF ts r), rt := fun x r => finOk ts r ∧ Q x (finF ts r) } (start3 N_law_fraction_1 ts) := by
  obtain ⟨n, a, l, rfl, hd, q⟩ := h
  refine ⟨nd1, n + 15, a, l, rfl, hd, fun b l1 hb0 hb1 hd1 => ⟨nd1, n + 14, a, l1, 4, rfl, hd1, by decide, by decide, fun w l2 hw0 hw1 hd2 => ?_⟩⟩
  -- behind the choice of the number above
  have tail : ∀ (ab : Int) (l3 : List T) (u4 : Option T), -10000000000000000002 ≤ ab → ab ≤ 10000000000000000002 → DeckOk (n + 3) l3 →
      xSeq (xAsg (xD (x2 cIx (xFz (xLst (xCons (xD (xC (.int 1))) (xCons (xD (xC (.int 1))) (xCons (xD (x2 kAdd (xC (.int 2)) (xFz (xCall sp_law_take xNoE (xIo 0 (xArg (xC (.int 8)) xANil)))))) xNil))))) (xFz (xCall sp_law_take xNoE (xIo 0 (xArg (xC (.int 3)) xANil)))))) (xGName 5))
        (xRet (xTup (xCons (xD (x2 kMul (x2 kMul (xView 3) (xView 5)) (x2 cIx (xFz (xLst (xCons (xD (xC (.int 1))) (xCons (xD (xNeg (xC (.int 1)))) xNil)))) (xFz (xCall sp_law_take xNoE (xIo 0 (xArg (xC (.int 2)) xANil))))))) (xCons (xD (x2 kMul (xView 1) (xView 5))) xNil))))
        { nx := fun r => finOk [.own a l] r ∧ Q (.d .none) (finF [.own a l] r), rt := fun x r => finOk [.own a l] r ∧ Q x (finF [.own a l] r) } [some (.own a l3), some (.d (.int b)), some (.d (.int w)), some (.d (.int ab)), u4, none] := fun ab l3 u4 ha0 ha1 hd3 => by
    refine ⟨nd1, n + 2, a, l3, 8, rfl, hd3, by decide, by decide, fun x l4 hx0 hx1 hd4 => ⟨sz 3, fun p => ⟨rfl, nd1, n + 1, a, l4, 3, rfl, hd4, by decide, by decide, fun y l5 hy0 hy1 hd5 => ?_⟩⟩⟩
    obtain ⟨z, hz, hz2⟩ := three (l := [.int 1, .int 1, .int (2 + x)]) rfl hy0 hy1
    obtain ⟨t, rfl, ht0, ht1⟩ : ∃ t, z = .int t ∧ 1 ≤ t ∧ t ≤ 9 := by
      rcases hz2 with rfl | rfl | rfl
      · exact ⟨_, rfl, by decide, by decide⟩
      · exact ⟨_, rfl, by decide, by decide⟩
      · exact ⟨_, rfl, by omega, by omega⟩
    have mb : MulOk ab t := mulOkR (by omega) (by omega)
    refine ⟨_, hz, mb, sz 2, fun p => ⟨rfl, nd1, n, a, l5, 2, rfl, hd5, by decide, by decide, fun s l6 hs0 hs1 hd6 => ?_⟩⟩
    obtain ⟨z, hz, hz2⟩ := two (l := [.int 1, .int (-1)]) rfl hs0 hs1
    have bt : -90000000000000000018 ≤ ab * t ∧ ab * t ≤ 90000000000000000018 := by
      have h1 : ab * t ≤ 10000000000000000002 * t := Int.mul_le_mul_of_nonneg_right ha1 (by omega)
      have h2 : (-10000000000000000002) * t ≤ ab * t := Int.mul_le_mul_of_nonneg_right ha0 (by omega)
      omega
    have bb : 0 < b * t ∧ b * t ≤ 90000000000000000000 := by
      have h1 : b * t ≤ 10000000000000000000 * t := Int.mul_le_mul_of_nonneg_right hb1 (by omega)
      have h2 : 1 * t ≤ b * t := Int.mul_le_mul_of_nonneg_right hb0 (by omega)
      omega
    rcases hz2 with rfl | rfl
    · exact ⟨_, hz, mulOkR (by decide) (by decide), mulOkR (by omega) (by omega), sz 2, ⟨rfl, ⟨⟩⟩, q (ab * t * 1, b * t) l6 ⟨bb.1, by show b * t ≤ _; omega, by show _ ≤ ab * t * 1; omega, by show ab * t * 1 ≤ _; omega⟩ hd6⟩
    · exact ⟨_, hz, mulOkR (by decide) (by decide), mulOkR (by omega) (by omega), sz 2, ⟨rfl, ⟨⟩⟩, q (ab * t * -1, b * t) l6 ⟨bb.1, by show b * t ≤ _; omega, by show _ ≤ ab * t * -1; omega, by show ab * t * -1 ≤ _; omega⟩ hd6⟩
  have sb : Sz 80 b := by unfold Sz; omega
  refine ⟨fun _ => ?_, fun _ => ⟨fun _ => ?_, fun _ => ⟨fun _ => ?_, fun _ => ?_⟩⟩⟩
  · exact ⟨nd1, n + 10, a, l2, rfl, hd2, fun x l3 hx0 hx1 hd3 => tail x l3 none (by omega) (by omega) (hd3.mono (by omega))⟩
  · refine ⟨nd1, n + 10, a, l2, rfl, hd2, fun x l3 hx0 hx1 hd3 => ⟨by omega, tail (x % b) l3 none ?_ ?_ (hd3.mono (by omega))⟩⟩
    · have := Int.emod_nonneg x (show b ≠ 0 by omega); omega
    · have := Int.emod_lt_of_pos x (show 0 < b by omega); omega
  · refine ⟨nd1, n + 13, a, l2, 9, rfl, hd2, by decide, by decide, fun x l3 hx0 hx1 hd3 => ⟨nd1, n + 12, a, l3, 1 + x + 1, rfl, hd3, by omega, by omega, fun y l4 hy0 hy1 hd4 => ⟨mulOkR (by omega) (by omega), divOk (by omega) (show Sz 10 (1 + x) from by unfold Sz; omega) (by decide), nd1, n + 11, a, l4, 3, rfl, hd4, by decide, by decide, fun z l5 hz0 hz1 hd5 => tail (b * y / (1 + x) + z - 1) l5 _ ?_ ?_ (hd5.mono (by omega))⟩⟩⟩
    · have h1 : 0 ≤ b * y := Int.mul_nonneg (by omega) hy0
      have := Int.ediv_nonneg h1 (show 0 ≤ 1 + x by omega)
      omega
    · have h1 : b * y ≤ b * (1 + x) := Int.mul_le_mul_of_nonneg_left (by omega) (by omega)
      have h2 : b * y / (1 + x) ≤ b := Int.ediv_le_of_le_mul (by omega) h1
      omega
  · refine ⟨divOk (by decide) (show Sz 2 2 from by unfold Sz; decide) (by decide), nd1, n + 13, a, l2, 3, rfl, hd2, by decide, by decide, fun z l5 hz0 hz1 hd5 => tail (b / 2 + z - 1) l5 none (by omega) (by omega) (hd5.mono (by omega))⟩
end L3
namespace L3
open PySem PySem.Spec PyProof.Rows L2
local macro_rules | `(tactic| wtm_at "sh") => `(tactic| conv => whnf)
def N_law_asking_1 : List Str := ["_law_deck_here", "_law_found", "_law_k"]
def body_law_asking_1 : TS3 := (xSeq (xAsg (xLc (xR1 (x2 kAdd (xC (.int 1)) (xFz (xCall sp_law_take xNoE (xIo 0 (xArg (xC (.int 3)) xANil)))))) (xGName 2) xYes (xCall sp_law_fraction_1 xNoE (xIo 0 xANil)) [2]) (xGName 1))
  (xSeq (xIfS (xAnd (xTest (x2 kGt (x1 cLen (xView 1)) (xC (.int 1)))) (xTest (x2 kEqI (xFz (xCall sp_law_take xNoE (xIo 0 (xArg (xC (.int 3)) xANil)))) (xC (.int 0))))) (xAsg (xTup (xCons (xD (x2 kSub (xFz (xCall sp_law_take xNoE (xIo 0 (xArg (x2 kPow (xC (.int 10)) (xC (.int 6))) xANil)))) (xFz (xCall sp_law_take xNoE (xIo 0 (xArg (x2 kPow (xC (.int 10)) (xC (.int 6))) xANil)))))) (xCons (xD (x2 cIx (x2 cIx (xView 1) (xC (.int 0))) (xC (.int 1)))) xNil))) (xGSub 1 (xC (.int 1)))) xNext)
  (xRet (xD (x1 cTup (xView 1))))))

theorem FrOk.ok {l : List (Int × Int)} (h : ∀ p ∈ l, FrOk p) : OkA l := fun p hp => by
  obtain ⟨h1, h2, h3, h4⟩ := h p hp
  exact ⟨h1, by unfold Sz; exact Nat.lt_of_lt_of_le (show p.1.natAbs < 2 ^ 80 by omega) (Nat.pow_le_pow_right (by decide) (by decide)), by unfold Sz; exact Nat.lt_of_lt_of_le (show p.2.natAbs < 2 ^ 80 by omega) (Nat.pow_le_pow_right (by decide) (by decide))⟩
def AskOk (l : List (Int × Int)) : Prop := l ≠ [] ∧ l.length ≤ 3 ∧ ∀ p ∈ l, FrOk p
def sp_law_asking_1 : Sp3 := fun ts Q _ => ∃ n a l, ts = [.own a l] ∧ DeckOk (n + 80) l ∧ ∀ p l', AskOk p → DeckOk n l' → Q (.d (asD p)) [.own a l']
theorem v_law_asking_1 (ts Q E) (h : sp_law_asking_1 ts Q E) : body_law_asking_1 { nx := fun r => finOk ts r ∧ Q (.d .none) (finF ts r), rt := fun x r => finOk ts r ∧ Q x (finF ts r) } (start3 N_law_asking_1 ts) := by
  obtain ⟨n, a, l, rfl, hd, q⟩ := h
  have p6 : CPow 10 6 := ⟨by decide, by decide, by decide⟩
  refine ⟨nd1, n + 79, a, l, 3, rfl, hd, by decide, by decide, fun m l1 hm0 hm1 hd1 => ⟨by omega, by omega, fun p => ?_⟩⟩
  refine ⟨fun i acc r => i ≤ (1 + m).toNat ∧ ∃ l' ps, r = [some (.own a l'), none, none] ∧ acc = ps.map (fun z => T.d (prI z)) ∧ ps.length = i ∧ (∀ p ∈ ps, FrOk p) ∧ DeckOk (n + 10 + 20 * (3 - i)) l', ⟨by omega, l1, [], rfl, rfl, rfl, by simp, hd1.mono (by omega)⟩, fun i x acc r hx hW => ⟨fun _ => ?_, nofun⟩, fun acc r hW => ?_⟩
  · obtain ⟨hi, l', ps, rfl, rfl, hl, hp, hd'⟩ := hW
    obtain ⟨hi3, rfl⟩ := rangeI_get hx
    have e9 : n + 10 + 20 * (3 - i) = n + 10 + 20 * (3 - (i + 1)) + 20 := by omega
    rw [e9] at hd'
    refine ⟨nd1, _, a, l', rfl, hd', fun z l2 hz hd2 => ⟨Nat.lt_of_le_of_lt (by rw [List.length_map]; omega) (show 1000 < sizeLine by decide), by omega, l2, ps ++ [z], rfl, by rw [List.map_append]; rfl, by rw [List.length_append, hl]; rfl, fun y hy => ?_, hd2⟩⟩
    rcases List.mem_append.mp hy with hy | hy
    · exact hp y hy
    · rw [List.mem_singleton.mp hy]; exact hz
  · obtain ⟨hi, l', ps, rfl, rfl, hl, hp, hd'⟩ := hW
    rw [rangeI_len] at hl
    have hlen : ps.length ≤ 3 := by omega
    have hne : ps ≠ [] := fun e => by rw [e] at hl; simp at hl; omega
    have dn : DeckOk (n + 10) l' := hd'.mono (by omega)
    have fin : ∀ l3, DeckOk n l3 → alld (ps.map fun z => T.d (prI z)) = true ∧ finOk [.own a l] [some (.own a l3), some (.own p (ps.map fun z => T.d (prI z))), none] ∧ Q (.d (.tuple (fzs (ps.map fun z => T.d (prI z))))) [.own a l3] := fun l3 h3 => by
      rw [fzs_map]
      exact ⟨alld_map _ _, ⟨rfl, ⟨⟩⟩, q ps l3 ⟨hne, hlen, hp⟩ h3⟩
    refine ⟨fun hc => ⟨nd1, n + 9, a, l', 3, rfl, dn, by decide, by decide, fun x l2 hx0 hx1 hd2 => ⟨fun _ => ?_, fun _ => fin l2 (hd2.mono (by omega))⟩⟩, fun hc => ⟨nofun, fun _ => fin l' (dn.mono (by omega))⟩⟩
    have h2 : (1 : Int) < (ps.map fun z => T.d (prI z)).length := dT hc
    rw [List.length_map] at h2
    match ps, hp, h2, fin, hl, hlen, q with
    | z0 :: z1 :: rest, hp, h2, fin, hl, hlen, q =>
      refine ⟨p6, nd1, n + 8, a, l2, _, rfl, hd2, by decide, by decide, fun u l3 hu0 hu1 hd3 => ⟨p6, nd1, n + 7, a, l3, _, rfl, hd3, by decide, by decide, fun w l4 hw0 hw1 hd4 => ?_⟩⟩
      have hu1' : u < 1000000 := hu1
      have hw1' : w < 1000000 := hw1
      refine ⟨rfl, _, rfl, _, rfl, sz 2, _, setI_in _ (by decide) (by simp only [List.length_map, List.length_cons]; omega), ?_⟩
      have e1 : (List.map (fun z => T.d (prI z)) (z0 :: z1 :: rest)).set (1 : Int).toNat (mkTup [.d (.int (u - w)), .d (.int z0.2)]) = (z0 :: (u - w, z0.2) :: rest).map fun z => T.d (prI z) := rfl
      rw [e1]
      refine ⟨alld_map _ _, ⟨rfl, ⟨⟩⟩, ?_⟩
      have e2 := fzs_map prI (z0 :: (u - w, z0.2) :: rest)
      show Q (.d (.tuple (fzs ((z0 :: (u - w, z0.2) :: rest).map fun z => T.d (prI z))))) [.own a l4]
      rw [e2]
      refine q (z0 :: (u - w, z0.2) :: rest) l4 ⟨by simp, by simp at hlen ⊢; omega, fun y hy => ?_⟩ (hd4.mono (by omega))
      rcases List.mem_cons.mp hy with rfl | hy
      · exact hp _ (by simp)
      · rcases List.mem_cons.mp hy with rfl | hy
        · have := hp z0 (by simp)
          exact ⟨this.1, this.2.1, by show _ ≤ u - w; omega, by show u - w ≤ _; omega⟩
        · exact hp y (by simp [hy])
def N_law_reduced : List Str := ["_law_above", "_law_below_here", "_law_one", "_law_other"]
def body_law_reduced : TS3 := (xSeq (xPar 2 3 (xCons (xD (x1 cAbs (xView 0))) (xCons (xMove 1) xNil)))
  (xSeq (xWhile (xTest (x2 kGt (xView 3) (xC (.int 0)))) (xPar 2 3 (xCons (xMove 3) (xCons (xD (x2 kMod (xView 2) (xView 3))) xNil))))
  (xRet (xTup (xCons (xD (x2 kDiv (xView 0) (xView 2))) (xCons (xD (x2 kDiv (xView 1) (xView 2))) xNil))))))

def sp_law_reduced : Sp3 := sp_in_least
theorem v_law_reduced (ts Q E) (h : sp_law_reduced ts Q E) : body_law_reduced { nx := fun r => finOk ts r ∧ Q (.d .none) (finF ts r), rt := fun x r => finOk ts r ∧ Q x (finF ts r) } (start3 N_law_reduced ts) := v_in_least ts Q E h
def N_law_near_1 : List Str := ["_law_asking_here", "_law_q", "_law_row", "_law_miss", "_law_above", "_law_below_here", "_law_low", "_law_sides", "_law_whole"]
def body_law_near_1 : TS3 := (xSeq (xAsg (xLst xNil) (xGName 2))
  (xSeq (xAsg (xTup (xCons (xD (xC (.int 0))) (xCons (xD (xC (.int 1))) xNil))) (xGName 3))
  (xSeq (xFor (xSeqI (xView 0)) (xGTup 2 (xGCons (xGName 4) (xGCons (xGName 5) xGNil))) (xSeq (xAsg (xD (x2 kDiv (x2 kMul (xView 1) (xView 4)) (xView 5))) (xGName 6))
  (xSeq (xAsg (x1 cSrtP (xFz (xLc (xSeqI (xFz (xTup (xCons (xMove 6) (xCons (xD (x2 kAdd (xView 6) (xC (.int 1)))) xNil))))) (xGName 8) xYes (xTup (xCons (xD (x1 cAbs (x2 kSub (x2 kMul (xView 1) (xView 4)) (x2 kMul (xView 8) (xView 5))))) (xCons (xMove 8) xNil))) [8]))) (xGName 7))
  (xSeq (xDrop (xApp 2 (xD (x2 cIx (x2 cIx (xView 7) (xC (.int 0))) (xC (.int 1))))))
  (xIfS (xTest (x2 kGt (x2 kMul (x2 cIx (x2 cIx (xView 7) (xC (.int 0))) (xC (.int 0))) (x2 cIx (xView 3) (xC (.int 1)))) (x2 kMul (x2 cIx (xView 3) (xC (.int 0))) (xView 5)))) (xAsg (xTup (xCons (xD (x2 cIx (x2 cIx (xView 7) (xC (.int 0))) (xC (.int 0)))) (xCons (xMove 5) xNil))) (xGName 3)) xNext)))))
  (xRet (xTup (xCons (xD (x1 cTup (xView 2))) (xCons (xCall sp_law_reduced xNoE (xArg (x2 cIx (xView 3) (xC (.int 0))) (xArg (x2 cIx (xView 3) (xC (.int 1))) xANil))) xNil)))))))

/-- the nearer side of two -/
theorem sides {A b : Int} (hb : 0 < b) {l : List (Int × Int)} (hp : l.Perm [((A - A / b * b).natAbs, A / b), ((A - (A / b + 1) * b).natAbs, A / b + 1)]) (hs : l.Pairwise leP) : ∃ y, l = [((near A b).2, (near A b).1), y] := by
  have h1 := Int.emod_nonneg A (by omega : b ≠ 0)
  have h2 := Int.emod_lt_of_pos A hb
  have h3 : A - A / b * b = A % b := by
    have := Int.mul_ediv_add_emod A b
    rw [Int.mul_comm b] at this
    omega
  have h4 : A - (A / b + 1) * b = A % b - b := by
    rw [Int.add_mul]
    omega
  have h5 : ((A % b).natAbs : Int) = A % b := by omega
  have h6 : ((A % b - b).natAbs : Int) = b - A % b := by omega
  rw [h3, h4, h5, h6] at hp
  have hlen := hp.length_eq
  match l, hlen, hp, hs with
  | [x, y], _, hp, hs =>
    have hx : x ∈ [(A % b, A / b), (b - A % b, A / b + 1)] := hp.mem_iff.mp (by simp)
    have hle : leP x y := by
      rw [List.pairwise_cons] at hs
      exact hs.1 y (by simp)
    have hy : (A % b, A / b) ∈ [x, y] := hp.mem_iff.mpr (by simp)
    have hz : (b - A % b, A / b + 1) ∈ [x, y] := hp.mem_iff.mpr (by simp)
    refine ⟨y, ?_⟩
    unfold near
    rw [h3]
    simp only [List.mem_cons, List.not_mem_nil, or_false] at hx hy hz
    unfold leP at hle
    rcases hx with rfl | rfl
    · rcases hz with e | e
      · have := (Prod.mk.inj e).2; omega
      · subst e
        rw [if_pos (by simp only at hle; omega)]
    · rcases hy with e | e
      · have := (Prod.mk.inj e).2; omega
      · subst e
        rw [if_neg (by simp only at hle; omega)]
def sp_law_near_1 : Sp3 := sp_near_row
theorem v_law_near_1 (ts Q E) (h : sp_law_near_1 ts Q E) : body_law_near_1 { nx := fun r => finOk ts r ∧ Q (.d .none) (finF ts r), rt := fun x r => finOk ts r ∧ Q x (finF ts r) } (start3 N_law_near_1 ts) := by
  obtain ⟨l, q, rfl, hl, hlen, ok, hq, sq, h⟩ := h
  refine ⟨sz 0, fun p => ⟨sz 2, ?_⟩⟩
  refine ⟨fun i r => ∃ a b c d, r = [some (.d (asD l)), some (.d (.int q)), some (.own p ((rowF (l.take i) q).map fun n => T.d (.int n))), some (.d (prI (missF (l.take i) q))), a, b, c, d, none], ⟨_, _, _, _, rfl⟩, fun i x r hx hW => ?_, fun r hW => ?_⟩
  · obtain ⟨a, b, c, d, rfl⟩ := hW
    obtain ⟨z, hz, rfl, hm⟩ := get_map hx
    obtain ⟨hb, sa, sb⟩ := ok z hm
    have sA : Sz 4000 (q * z.1) := sq.mul sa
    have sd : Sz 4000 (q * z.1 / z.2) := sA.div hb
    have m0 := missF_take (q := q) (fun p hp => (ok p hp).1) i
    have sm : Sz 2000 (missF (l.take i) q).2 := by
      rcases m0.2.2.2 with e | ⟨p, hp, e⟩
      · rw [e]; exact (show Sz 2 1 from by unfold Sz; decide).mono (by decide)
      · rw [e]; exact (ok p hp).2.2
    have sm1 : Sz 2000 (missF (l.take i) q).1 := sm.le (by omega)
    have hn := near_off (a := q * z.1) hb
    refine ⟨rfl, mulOk sq sa (by decide), divOk hb sb (by decide), sz 2, fun p2 => ⟨fun j acc r => r = [some (.d (asD l)), some (.d (.int q)), some (.own p ((rowF (l.take i) q).map fun n => T.d (.int n))), some (.d (prI (missF (l.take i) q))), some (.d (.int z.1)), some (.d (.int z.2)), some (.d (.int (q * z.1 / z.2))), d, none] ∧ acc = ((([(((q * z.1 - q * z.1 / z.2 * z.2).natAbs : Int), q * z.1 / z.2), (((q * z.1 - (q * z.1 / z.2 + 1) * z.2).natAbs : Int), q * z.1 / z.2 + 1)] : List (Int × Int)).take j).map (fun z => T.d (prI z))), ⟨rfl, rfl⟩, fun j x acc r hx hW => ⟨fun _ => ?_, nofun⟩, fun acc r hW => ?_⟩⟩
    · obtain ⟨rfl, rfl⟩ := hW
      match j, hx with
      | 0, hx =>
        cases hx
        exact ⟨mulOk sq sa (by decide), mulOk sd sb (by decide), sz 2, (show 0 < sizeLine by decide), rfl, rfl⟩
      | 1, hx =>
        cases hx
        exact ⟨mulOk sq sa (by decide), mulOk (sd.add (show Sz 4000 1 from (show Sz 2 1 from by unfold Sz; decide).mono (by decide))) sb (by decide), sz 2, (show 1 < sizeLine by decide), rfl, rfl⟩
    · obtain ⟨rfl, rfl⟩ := hW
      refine ⟨rfl, rfl, fun l' p3 hperm hsort => ?_⟩
      obtain ⟨y, rfl⟩ := sides hb hperm hsort
      refine ⟨rfl, _, rfl, _, rfl, Nat.lt_of_le_of_lt (by rw [List.length_map]; unfold rowF; rw [List.length_map, List.length_take]; omega) (show 1000 < sizeLine by decide), rfl, _, rfl, _, rfl, _, rfl,
        mulOk ((sb.le (by show (near (q * z.1) z.2).2.natAbs ≤ _; omega))) sm (by decide), _, rfl, mulOk sm1 sb (by decide), fun hc => ?_, fun hc => ?_⟩
      · have e1 : missF (l.take (i + 1)) q = ((near (q * z.1) z.2).2, z.2) := by
          unfold missF
          rw [take_succ hz, List.foldl_append]
          show missS q (missF (l.take i) q) z = _
          unfold missS
          rw [if_pos (show isMore ((near (q * z.1) z.2).2, z.2) (missF (l.take i) q) = true from hc)]
        have e2 : rowF (l.take (i + 1)) q = rowF (l.take i) q ++ [(near (q * z.1) z.2).1] := by
          unfold rowF
          rw [take_succ hz, List.map_append]
          rfl
        refine ⟨rfl, _, rfl, _, rfl, sz 2, some (.d (.int z.1)), some (.d (.int z.2)), some (.d (.int (q * z.1 / z.2))), some (.own p3 ([((near (q * z.1) z.2).2, (near (q * z.1) z.2).1), y].map fun z => T.d (prI z))), ?_⟩
        rw [e1, e2, List.map_append]
        rfl
      · have e1 : missF (l.take (i + 1)) q = missF (l.take i) q := by
          unfold missF
          rw [take_succ hz, List.foldl_append]
          show missS q (missF (l.take i) q) z = missF (l.take i) q
          unfold missS
          rw [if_neg (by rw [show isMore ((near (q * z.1) z.2).2, z.2) (missF (l.take i) q) = false from hc]; decide)]
        have e2 : rowF (l.take (i + 1)) q = rowF (l.take i) q ++ [(near (q * z.1) z.2).1] := by
          unfold rowF
          rw [take_succ hz, List.map_append]
          rfl
        refine ⟨some (.d (.int z.1)), some (.d (.int z.2)), some (.d (.int (q * z.1 / z.2))), some (.own p3 ([((near (q * z.1) z.2).2, (near (q * z.1) z.2).1), y].map fun z => T.d (prI z))), ?_⟩
        rw [e1, e2, List.map_append]
        rfl
  · obtain ⟨a, b, c, d, rfl⟩ := hW
    rw [List.length_map, List.take_length]
    have m0 := missF_take (q := q) (fun p hp => (ok p hp).1) l.length
    rw [List.take_length] at m0
    have sm : Sz 2000 (missF l q).2 := by
      rcases m0.2.2.2 with e | ⟨p, hp, e⟩
      · rw [e]; exact (show Sz 2 1 from by unfold Sz; decide).mono (by decide)
      · rw [e]; exact (ok p hp).2.2
    refine ⟨alld_map _ _, _, rfl, _, rfl, nd0, _, _, rfl, m0.2.2.1, sm.mono (by decide), sz 2, ⟨⟩, ?_⟩
    have e : fzs ((rowF l q).map fun n => T.d (.int n)) = (rowF l q).map PyData.int := fzs_map _ _
    unfold nrD missL at h
    rw [← e] at h
    exact h
end L3
namespace L3
open PySem PySem.Spec PyProof.Rows L2
local macro_rules | `(tactic| wtm_at "sh") => `(tactic| conv => whnf)
def N_law_same_1 : List Str := ["_law_found", "_law_due", "_law_one", "_law_other"]
def body_law_same_1 (sp_law_same_1 : Sp3) : TS3 := (xSeq (xIfS (xTest (x1 (cIsi2 "tuple" "list") (xView 1))) (xSeq (xIfS (xOr (xTest (x2 kNe (x1 (cIsi "tuple") (xView 0)) (x1 (cIsi "tuple") (xView 1)))) (xTest (x2 kNe (x1 (cIsi "list") (xView 0)) (x1 (cIsi "list") (xView 1))))) (xRet (xD (xC (.bool false)))) xNext)
  (xSeq (xIfS (xTest (x2 kNeI (x1 cLen (xView 0)) (x1 cLen (xView 1)))) (xRet (xD (xC (.bool false)))) xNext)
  (xRet (xD (x2 kEq (xFz (xLc (xZip (xView 0) (xView 1)) (xGTup 2 (xGCons (xGName 2) (xGCons (xGName 3) xGNil))) (xNot (xTest (xFz (xCall sp_law_same_1 xNoE (xArg (xView 2) (xArg (xView 3) xANil)))))) (xD (xC (.int 1))) [2, 3])) (xFz (xLst xNil))))))) xNext)
  (xSeq (xIfS (xOr (xTest (x2 kIsN (xView 1) (xC .none))) (xTest (x1 (cIsi "str") (xView 1)))) (xRet (xD (xAndV (x2 kEq (xView 0) (xView 1)) (x2 kEq (x1 (cIsi "str") (xView 0)) (x1 (cIsi "str") (xView 1)))))) xNext)
  (xRet (xD (xAndV (x1 (cIsi "int") (xView 0)) (xAndV (xNotV (x1 (cIsi "bool") (xView 0))) (x2 kEq (xView 0) (xView 1))))))))

/-- plain nested data of no more than n layers -/
def Nest : Nat → PyData → Prop
  | 0, _ => False
  | _ + 1, .none => True
  | _ + 1, .int _ => True
  | _ + 1, .str i => SeqAt.shaped (.str i) = true
  | n + 1, .tuple l => l.length < sizeLine ∧ ∀ x ∈ l, Nest n x
  | n + 1, .list l => l.length < sizeLine ∧ ∀ x ∈ l, Nest n x
  | _ + 1, _ => False
def sp_law_same_1 (n : Nat) : Sp3 := fun ts Q _ => ∃ x, ts = [.d x, .d x] ∧ Nest n x ∧ Q (.d (.bool true)) [.d x, .d x]
theorem v_law_same_1 (n) (ts Q E) (h : sp_law_same_1 (n + 1) ts Q E) : body_law_same_1 (sp_law_same_1 n) { nx := fun r => finOk ts r ∧ Q (.d .none) (finF ts r), rt := fun x r => finOk ts r ∧ Q x (finF ts r) } (start3 N_law_same_1 ts) := by
  obtain ⟨x, rfl, hn, q⟩ := h
  have loop : ∀ l : List PyData, (∀ x ∈ l, Nest n x) → ∀ i x, (zipD l l)[i]? = some x → ∃ y, x = PyData.tuple [y, y] ∧ Nest n y := fun l hl i x hx => by
    unfold zipD at hx
    rw [List.getElem?_zipWith] at hx
    cases e1 : l[i]? with
    | none => rw [e1] at hx; cases hx
    | some y => rw [e1] at hx; cases hx; exact ⟨y, rfl, hl y (List.mem_of_getElem? e1)⟩
  cases x with
  | tuple l =>
    have hn2 := hn.2
    have hlen := hn.1
    refine ⟨fun _ => ⟨rfl, rfl, nofun, fun _ => ⟨rfl, rfl, ⟨nofun, fun _ => ⟨fun hc => ?_, fun _ => ?_⟩⟩⟩⟩, nofun⟩
    · have h2 : decide ((l.length : Int) = l.length) = true := decide_eq_true rfl
      have h3 : (!decide ((l.length : Int) = l.length)) = true := hc
      rw [h2] at h3
      cases h3
    refine fun p => ⟨fun i acc r => acc = [] ∧ r.length = 4 ∧ r[0]? = some (some (.d (.tuple l))) ∧ r[1]? = some (some (.d (.tuple l))), ⟨rfl, rfl, rfl, rfl⟩, fun i x acc r hx hW => ?_, fun acc r hW => ?_⟩
    · obtain ⟨rfl, hr, h0, h1⟩ := hW
      obtain ⟨y, rfl, hy⟩ := loop l hn2 i _ hx
      match r, hr, h0, h1 with
      | [_, _, _, _], _, h0, h1 =>
        cases h0
        cases h1
        exact ⟨rfl, nd0, y, rfl, hy, nofun, fun _ => ⟨rfl, rfl, rfl, rfl⟩⟩
    · obtain ⟨rfl, hr, h0, h1⟩ := hW
      match r, hr, h0, h1 with
      | [_, _, _, _], _, h0, h1 =>
        cases h0
        cases h1
        exact ⟨rfl, sz 0, fun _ => ⟨rfl, rfl, rfl, ⟨⟨⟩, q⟩⟩⟩
  | list l =>
    have hn2 := hn.2
    have hlen := hn.1
    refine ⟨fun _ => ⟨rfl, rfl, nofun, fun _ => ⟨rfl, rfl, ⟨nofun, fun _ => ⟨fun hc => ?_, fun _ => ?_⟩⟩⟩⟩, nofun⟩
    · have h2 : decide ((l.length : Int) = l.length) = true := decide_eq_true rfl
      have h3 : (!decide ((l.length : Int) = l.length)) = true := hc
      rw [h2] at h3
      cases h3
    refine fun p => ⟨fun i acc r => acc = [] ∧ r.length = 4 ∧ r[0]? = some (some (.d (.list l))) ∧ r[1]? = some (some (.d (.list l))), ⟨rfl, rfl, rfl, rfl⟩, fun i x acc r hx hW => ?_, fun acc r hW => ?_⟩
    · obtain ⟨rfl, hr, h0, h1⟩ := hW
      obtain ⟨y, rfl, hy⟩ := loop l hn2 i _ hx
      match r, hr, h0, h1 with
      | [_, _, _, _], _, h0, h1 =>
        cases h0
        cases h1
        exact ⟨rfl, nd0, y, rfl, hy, nofun, fun _ => ⟨rfl, rfl, rfl, rfl⟩⟩
    · obtain ⟨rfl, hr, h0, h1⟩ := hW
      match r, hr, h0, h1 with
      | [_, _, _, _], _, h0, h1 =>
        cases h0
        cases h1
        exact ⟨rfl, sz 0, fun _ => ⟨rfl, rfl, rfl, ⟨⟨⟩, q⟩⟩⟩
  | int i => 
    refine ⟨nofun, fun _ => ⟨⟨⟩, nofun, fun _ => ⟨nofun, fun _ => ⟨fun _ => ⟨fun _ => ⟨rfl, rfl, ?_⟩, nofun⟩, nofun⟩⟩⟩⟩
    have e : PyData.eqv (.int i) (.int i) = true := by simp [PyData.eqv]
    show True ∧ Q (.d (.bool (PyData.eqv (.int i) (.int i)))) _
    rw [e]
    exact ⟨⟨⟩, q⟩
  | str i => 
    have e : PyData.eqv (.str i) (.str i) = true := by simp [PyData.eqv]
    refine ⟨nofun, fun _ => ⟨⟨⟩, nofun, fun _ => ⟨fun _ => ⟨hn, hn, ?_⟩, nofun⟩⟩⟩
    · show (PyData.eqv (.str i) (.str i) = true → _) ∧ (PyData.eqv (.str i) (.str i) = false → _)
      rw [e]
      refine ⟨fun _ => ⟨rfl, rfl, ⟨⟩, q⟩, nofun⟩
  | none => 
    exact ⟨nofun, fun _ => ⟨⟨⟩, fun _ => ⟨fun _ => ⟨rfl, rfl, fun _ => ⟨rfl, rfl, ⟨⟨⟩, q⟩⟩, nofun⟩, nofun⟩, nofun⟩⟩
  | _ => exact hn.elim
theorem fzo (p : Addr) (ns : List Int) : fz (T.own p (ns.map fun n => T.d (.int n))) = .list (ns.map PyData.int) := by
  show PyData.list (fzs (ns.map fun n => T.d (.int n))) = _
  rw [fzs_map]
theorem z0_law_same_1 {ts : List T} {Q : T → List T → Prop} {E : Addr → List T → Prop} (h : sp_law_same_1 0 ts Q E) : False := by
  obtain ⟨x, _, hn, _⟩ := h
  exact hn
def N_law_deck : List Str := ["_law_script", "_law_cells", "_law_seed", "_law_k", "_law_mixed"]
def body_law_deck : TS3 := (xSeq (xAsg (x2 cAdd (xFz (xSl (xView 0) xNo (xSome (xC (.int 63))))) (xFz (xLst (xCons (xD (x1 cLen (xView 0))) xNil)))) (xGName 1))
  (xSeq (xAsg (xD (x2 kMod (x2 kAdd (x2 kAdd (x2 kMul (x1 cSum (xFz (xSl (xView 0) xNo (xSome (xC (.int 63)))))) (xC (.int 48271))) (x2 kMul (xC (.int 7)) (x1 cLen (xView 0)))) (xC (.int 5))) (xC (.int 2147483647)))) (xGName 2))
  (xSeq (xIfS (xTest (x2 kEqI (x2 kMod (x1 cSum (xFz (xSl (xView 0) xNo (xSome (xC (.int 63)))))) (xC (.int 2))) (xC (.int 1)))) (xFor (xR1 (x1 cLen (xView 1))) (xGName 3) (xSeq (xAsg (xD (x2 kMod (x2 kMul (x2 kAdd (x2 kAdd (x2 kMod (x2 cIx (xView 1) (xView 3)) (xC (.int 2147483587))) (x2 kMul (xC (.int 853)) (xView 3))) (xC (.int 11))) (xC (.int 69621))) (xC (.int 2147483629)))) (xGName 4))
  (xSeq (xAsg (xD (x2 kMod (x2 kMul (x2 kMod (x2 kAdd (x2 kMul (xView 4) (xView 4)) (x2 kMul (xC (.int 31)) (xView 3))) (xC (.int 2147483563))) (xC (.int 16807))) (xC (.int 2147483549)))) (xGName 4))
  (xAsg (xD (x2 kAdd (x2 kMul (x2 kMul (xView 4) (xView 4)) (xC (.int 2147483543))) (x2 kMod (x2 kMul (xView 4) (xC (.int 48271))) (xC (.int 2147483579))))) (xGSub 1 (xView 3)))))) xNext)
  (xRet (xLst (xCons (xMove 1) (xCons (xD (xC (.int 0))) (xCons (xMove 2) xNil))))))))

def sp_law_deck : Sp3 := fun ts Q _ => ∃ a ns, ts = [.sc a ns] ∧ ns.length ≤ 63 ∧ ∀ p l, DeckOk 100000000 l → Q (.own p l) [.sc a ns]
theorem v_law_deck (ts Q E) (h : sp_law_deck ts Q E) : body_law_deck { nx := fun r => finOk ts r ∧ Q (.d .none) (finF ts r), rt := fun x r => finOk ts r ∧ Q x (finF ts r) } (start3 N_law_deck ts) := by
  obtain ⟨a, ns, rfl, hl, q⟩ := h
  have ec : cutL ns none (some 63) = ns := by
    unfold cutL
    have e1 : HT.sIx ns.length ns.length (some (63 : Int)) = ns.length := by
      show HT.sIx ns.length ns.length (some ((63 : Nat) : Int)) = _
      rw [HT.sIx_nat, Nat.min_eq_right hl]
    rw [e1, HT.sIx_none, Nat.sub_zero, List.drop_zero, List.take_length]
  have al : ∀ l : List Int, alld (l.map fun n => T.d (.int n)) = true := fun l => alld_map _ _
  have ai : ∀ l : List Int, allI (fzs (l.map fun n => T.d (.int n))) = true := fun l => by rw [fzs_map]; exact allI_map l
  have few : ns.length + 1 ≤ sizeLine := Nat.le_trans (show ns.length + 1 ≤ 64 by omega) (by decide)
  have mk : ∀ (k : Int), 0 ≤ k → k < 64 → MulOk 853 k := fun k h0 h1 => mulOkL (by decide) (by decide)
  have low : ∀ x m : Int, 0 < m → 0 ≤ x % m ∧ x % m < m := fun x m h => ⟨Int.emod_nonneg x (by omega), Int.emod_lt_of_pos x h⟩
  have nm : ∀ l : List Int, nvs (l.map fun n => T.d (.int n)) = true := fun l => nvs_map _ _
  refine fun p0 => ⟨nm _, sz 1, fun p1 => ⟨rfl, ?_⟩⟩
  rw [ec, fzo]
  refine ⟨by rw [List.length_map]; exact few, fun p => fun p2 => ⟨nm _, ?_⟩⟩
  rw [ec, fzo]
  refine ⟨allI_map _, mulOkR (by decide) (by decide), mulOkL (by decide) (by decide), (show (0 : Int) < 2147483647 by decide), fun p3 => ⟨nm _, ?_⟩⟩
  rw [ec, fzo]
  have e1 : ((ns.map PyData.int).map T.d ++ [PyData.int ns.length].map T.d) = (ns ++ [(ns.length : Int)]).map fun x => T.d (.int x) := by simp
  have e2 := low ((intL (ns.map PyData.int)).sum * 48271 + 7 * ns.length + 5) 2147483647 (by decide)
  generalize hseed : ((intL (ns.map PyData.int)).sum * 48271 + 7 * (ns.length : Int) + 5) % 2147483647 = seed at e2
  have fin : ∀ cells : List Int, cells.length = ns.length + 1 → ∀ b1 b2 : Option T, finOk [T.sc a ns] [some (.sc a ns), none, none, b1, b2] ∧ ∀ pd, Q (.own pd [.own p (cells.map fun x => .d (.int x)), .d (.int 0), .d (.int seed)]) [.sc a ns] := fun cells hc b1 b2 => ⟨⟨⟩, fun pd => q pd _ ⟨p, cells, 0, seed, rfl, by omega, by omega, by decide, by omega, by omega, by omega⟩⟩
  refine ⟨allI_map _, (show (0 : Int) < 2 by decide), fun _ => ?_, fun _ => ?_⟩
  · have e9 : ((ns.map PyData.int).map T.d ++ (fzs [T.d (PyData.int ns.length)]).map T.d).length = ns.length + 1 := by rw [List.length_append, List.length_map, List.length_map]; rfl
    refine ⟨by omega, by omega, fun (i : Nat) (r : Rho) => ∃ (cells : List Int) (k m : Option T), r = [some (.sc a ns), some (.own p (cells.map fun x => T.d (.int x))), some (.d (.int seed)), k, m] ∧ cells.length = ns.length + 1, ⟨ns ++ [(ns.length : Int)], none, none, ?_, by simp⟩, fun i x r hx hW => ?_, fun r hW => ?_⟩
    · rw [← hseed, ← e1]; rfl
    · obtain ⟨cells, k, m, rfl, hc⟩ := hW
      obtain ⟨hi, rfl⟩ := rangeI_get hx
      have hi2 : (i : Int) < ((cells.map fun x => T.d (.int x)).length : Int) := by rw [List.length_map]; omega
      obtain ⟨x, g1, g2, _⟩ := getI_of (l := cells.map fun x => T.d (.int x)) (i := (i : Int)) (by omega) hi2
      obtain ⟨y, _, rfl⟩ : ∃ y, cells[i]? = some y ∧ x = .d (.int y) := by
        rw [Int.toNat_natCast, List.getElem?_map] at g2
        cases e : cells[i]? with
        | none => rw [e] at g2; cases g2
        | some y => rw [e] at g2; exact ⟨y, rfl, (Option.some.inj g2).symm⟩
      have sL : ∀ x m z : Int, 0 < m → m < 2 ^ 62 → MulOk (x % m) z := fun x m z h h2 => by
        have := low x m h
        exact mulOkL (by omega) (by omega)
      rw [Int.zero_add]
      exact ⟨rfl, _, g1, (show (0 : Int) < 2147483587 by decide), mulOkL (by decide) (by decide), mulOkR (by decide) (by decide), (show (0 : Int) < 2147483629 by decide),
        sL _ _ _ (by decide) (by decide), mulOkL (by decide) (by decide), (show (0 : Int) < 2147483563 by decide), mulOkR (by decide) (by decide), (show (0 : Int) < 2147483549 by decide),
        sL _ _ _ (by decide) (by decide), mulOkR (by decide) (by decide), sL _ _ _ (by decide) (by decide), (show (0 : Int) < 2147483579 by decide), _, setI_in _ (by omega) hi2, cells.set i _, _, _, by rw [Int.toNat_natCast, List.map_set]; rfl, by rw [List.length_set]; exact hc⟩
    · obtain ⟨cells, k, m, rfl, hc⟩ := hW
      exact ⟨sz 3, fun pd => ⟨⟨⟩, (fin cells hc k m).2 pd⟩⟩
  · rw [← hseed] at fin
    have f := fin (ns ++ [(ns.length : Int)]) (by simp) none none
    rw [← e1] at f
    exact ⟨sz 3, fun pd => ⟨⟨⟩, f.2 pd⟩⟩
end L3
namespace L3
open PySem PySem.Spec PyProof.Rows L2
local macro_rules | `(tactic| wtm_at "sh") => `(tactic| conv => whnf)
theorem nest_nr (l : List (Int × Int)) (q : Int) (h : l.length ≤ 1000) : Nest 8 (nrD l q) := by
  have a : 1000 < sizeLine := by decide
  have a2 : 2 < sizeLine := by decide
  refine ⟨a2, fun x hx => ?_⟩
  rcases List.mem_cons.mp hx with rfl | hx
  · refine ⟨?_, fun y hy => ?_⟩
    · rw [List.length_map]; unfold rowF; rw [List.length_map]; exact Nat.lt_of_le_of_lt h a
    · obtain ⟨z, _, rfl⟩ := List.mem_map.mp hy
      exact ⟨⟩
  · rw [List.mem_singleton.mp hx]
    refine ⟨a2, fun y hy => ?_⟩
    rcases List.mem_cons.mp hy with rfl | hy
    · exact ⟨⟩
    · rw [List.mem_singleton.mp hy]; exact ⟨⟩
def N_law_1 : List Str := ["_law_script", "_law_deck_here", "_law_turn", "_law_asking_here", "_law_below_here", "_law_numbers", "_law_q", "_law_due"]
def body_law_1 : TS3 := (xSeq (xAsg (xCall sp_law_deck xNoE (xArg (xView 0) xANil)) (xGName 1))
  (xSeq (xFor (xR1 (xC (.int 8))) (xGName 2) (xSeq (xAsg (xCall sp_law_asking_1 xNoE (xIo 1 xANil)) (xGName 3))
  (xSeq (xAsg (xD (x2 cIx (x2 cIx (xView 3) (xC (.int 0))) (xC (.int 1)))) (xGName 4))
  (xSeq (xAsg (xLst (xCons (xD (xC (.int 1))) (xCons (xD (xC (.int 2))) (xCons (xD (x2 kAdd (xC (.int 1)) (xFz (xCall sp_law_take xNoE (xIo 1 (xArg (xC (.int 3000)) xANil)))))) (xCons (xD (x2 kAdd (xC (.int 1)) (xFz (xCall sp_law_far xNoE (xIo 1 xANil))))) (xCons (xMove 4) (xCons (xD (x2 kMax (xC (.int 1)) (x2 kDiv (xView 4) (xC (.int 2))))) (xCons (xD (x2 kAdd (xView 4) (xC (.int 1)))) xNil)))))))) (xGName 5))
  (xSeq (xDrop (xApp 5 (xD (x2 kAdd (xC (.int 1)) (x2 kMul (xFz (xCall sp_law_far xNoE (xIo 1 xANil))) (x2 kPow (xC (.int 10)) (xC (.int 11))))))))
  (xFor (xSeqI (xFz (xMove 5))) (xGName 6) (xSeq (xAsg (xCall sp_law_near_1 xNoE (xArg (xView 3) (xArg (xView 6) xANil))) (xGName 7))
  (xIfS (xOr (xNot (xTest (xFz (xCall (sp_law_same_1 8) xNoE (xArg (xFz (xCall sp_near_row xNoE (xArg (xView 3) (xArg (xView 6) xANil)))) (xArg (xView 7) xANil)))))) (xNot (xTest (xFz (xCall (sp_law_same_1 8) xNoE (xArg (xFz (xCall sp_near_row xNoE (xArg (xView 3) (xArg (xView 6) xANil)))) (xArg (xView 7) xANil))))))) (xRet (xD (xC (.bool false)))) xNext))))))))
  (xRet (xD (xAndV (x2 kEq (xFz (xCall sp_near_row xNoE (xArg (xFz (xTup (xCons (xTup (xCons (xD (xC (.int 1))) (xCons (xD (xC (.int 2))) xNil))) xNil))) (xArg (xC (.int 1)) xANil)))) (xFz (xTup (xCons (xTup (xCons (xD (xC (.int 0))) xNil)) (xCons (xTup (xCons (xD (xC (.int 1))) (xCons (xD (xC (.int 2))) xNil))) xNil))))) (x2 kEq (xFz (xCall sp_near_row xNoE (xArg (xFz (xTup (xCons (xTup (xCons (xD (xNeg (xC (.int 1)))) (xCons (xD (xC (.int 2))) xNil))) (xCons (xTup (xCons (xD (xC (.int 2))) (xCons (xD (xC (.int 3))) xNil))) xNil)))) (xArg (xC (.int 1)) xANil)))) (xFz (xTup (xCons (xTup (xCons (xD (xNeg (xC (.int 1)))) (xCons (xD (xC (.int 1))) xNil))) (xCons (xTup (xCons (xD (xC (.int 1))) (xCons (xD (xC (.int 2))) xNil))) xNil))))))))))

theorem v_law_1 (ts Q E) (h : spLaw ts Q E) : body_law_1 { nx := fun r => finOk ts r ∧ Q (.d .none) (finF ts r), rt := fun x r => finOk ts r ∧ Q x (finF ts r) } (start3 N_law_1 ts) := by
  obtain ⟨a, ns, rfl, hl, q⟩ := h
  have p11 : CPow 10 11 := ⟨by decide, by decide, by decide⟩
  have p6 : CPow 10 6 := ⟨by decide, by decide, by decide⟩
  refine ⟨nd0, a, ns, rfl, hl, fun dk l0 hd0 => ?_⟩
  refine ⟨by decide, by decide, fun i r => ∃ l b c d e f g, r = [some (.sc a ns), some (.own dk l), b, c, d, e, f, g] ∧ i ≤ 8 ∧ DeckOk (10000 + (8 - i) * 1000) l, ⟨l0, _, _, _, _, _, _, rfl, by decide, hd0.mono (by decide)⟩, fun i x r hx hW => ?_, fun r hW => ?_⟩
  · obtain ⟨l, b, c, d, e, f, g, rfl, hi, hd⟩ := hW
    obtain ⟨hi8, rfl⟩ := rangeI_get hx
    refine ⟨nd1, 10000 + (7 - i) * 1000 + 900, dk, l, rfl, hd.mono (by omega), fun p l1 hp hd1 => ?_⟩
    obtain ⟨hne, hlen, hfr⟩ := hp
    match p, hne, hlen, hfr with
    | z :: p, hne, hlen, hfr =>
    have hz := hfr z (by simp)
    refine ⟨_, rfl, _, rfl, nd1, 10000 + (7 - i) * 1000 + 899, dk, l1, _, rfl, hd1.mono (by omega), by decide, by decide, fun x1 l2 h10 h11 hd2 => ?_⟩
    refine ⟨nd1, 10000 + (7 - i) * 1000 + 800, dk, l2, rfl, hd2.mono (by omega), fun x2 l3 h20 h21 hd3 => ?_⟩
    have hz1 := hz.1
    have hz2 := hz.2.1
    refine ⟨divOk (n := 2) (by decide) (by unfold Sz; decide) (by decide), sz 7, fun pl => ?_⟩
    refine ⟨nd1, 10000 + (7 - i) * 1000 + 700, dk, l3, rfl, hd3.mono (by omega), fun x3 l4 h30 h31 hd4 => ?_⟩
    refine ⟨p11, mulOkR (by decide) (by decide), (show 7 < sizeLine by decide), ?_⟩
    have big : ∀ y ∈ [1, 2, 1 + x1, 1 + x2, z.2, max 1 (z.2 / 2), z.2 + 1, 1 + x3 * 10 ^ 11], 1 ≤ y ∧ Sz 2000 y := fun y hy => by
      have h2 : 1 ≤ y ∧ y ≤ 10 ^ 40 := by
        simp only [List.mem_cons, List.not_mem_nil, or_false] at hy
        rcases hy with rfl | rfl | rfl | rfl | rfl | rfl | rfl | rfl <;> omega
      exact ⟨h2.1, by unfold Sz; exact Nat.lt_of_lt_of_le (show y.natAbs < 2 ^ 140 by omega) (Nat.pow_le_pow_right (by decide) (by decide))⟩
    generalize hnums : ([1, 2, 1 + x1, 1 + x2, z.2, max 1 (z.2 / 2), z.2 + 1, 1 + x3 * 10 ^ 11] : List Int) = nums at big
    have ok : OkA (z :: p) := FrOk.ok hfr
    have enum : fzs ([1, 2, 1 + x1, 1 + x2, z.2, max 1 (z.2 / 2), z.2 + 1, 1 + x3 * 10 ^ 11].map fun x => T.d (.int x)) = nums.map PyData.int := by rw [hnums, fzs_map]
    have okl : (z :: p).length ≤ 1000 := by omega
    refine ⟨rfl, fun j r => ∃ l u1 u2 u3 u4, r = [some (.sc a ns), some (.own dk l), u1, some (.d (asD (z :: p))), u2, none, u3, u4] ∧ DeckOk (10000 + (7 - i) * 1000) l, ⟨l4, _, _, _, _, rfl, hd4.mono (by omega)⟩, fun j x r hx hW => ?_, fun r hW => ?_⟩
    · have hx2 : (nums.map PyData.int)[j]? = some x := by rw [← enum]; exact hx
      obtain ⟨l, u1, u2, u3, u4, rfl, hd⟩ := hW
      obtain ⟨y, hy, rfl⟩ : ∃ y, y ∈ nums ∧ x = .int y := by
        rw [List.getElem?_map] at hx2
        cases e : nums[j]? with
        | none => rw [e] at hx2; cases hx2
        | some y => rw [e] at hx2; exact ⟨y, List.mem_of_getElem? e, (Option.some.inj hx2).symm⟩
      obtain ⟨y1, y2⟩ := big y hy
      exact ⟨nd0, z :: p, y, rfl, hne, okl, ok, y1, y2, nd0, z :: p, y, rfl, hne, okl, ok, y1, y2, nd0, _, rfl, nest_nr _ _ okl, nofun, fun _ => ⟨nd0, z :: p, y, rfl, hne, okl, ok, y1, y2, nd0, _, rfl, nest_nr _ _ okl, nofun, fun _ => ⟨l, _, _, _, _, rfl, hd⟩⟩⟩
    · obtain ⟨l, u1, u2, u3, u4, rfl, hd⟩ := hW
      exact ⟨l, _, _, _, _, _, _, rfl, by omega, hd.mono (by omega)⟩
  · obtain ⟨l, b, c, d, e, f, g, rfl, hi, hd⟩ := hW
    have o1 : OkA [((1 : Int), (2 : Int))] := FrOk.ok fun y hy => by rw [List.mem_singleton.mp hy]; unfold FrOk; decide
    have o2 : OkA [((-1 : Int), (2 : Int)), (2, 3)] := FrOk.ok fun y hy => by
      rcases List.mem_cons.mp hy with rfl | hy
      · unfold FrOk; decide
      · rw [List.mem_singleton.mp hy]; unfold FrOk; decide
    have s1 : Sz 2000 1 := (show Sz 2 1 by unfold Sz; decide).mono (by decide)
    have d1 : nrD [(1, 2)] 1 = .tuple [.tuple [.int 0], .tuple [.int 1, .int 2]] := by
      have h1 : rowF [(1, 2)] 1 = [0] := by decide +kernel
      have h2 : missL [(1, 2)] 1 = (1, 2) := by decide +kernel
      unfold nrD
      rw [h1, h2]
      rfl
    have d2 : nrD [(-1, 2), (2, 3)] 1 = .tuple [.tuple [.int (-1), .int 1], .tuple [.int 1, .int 2]] := by
      have h1 : rowF [(-1, 2), (2, 3)] 1 = [-1, 1] := by decide +kernel
      have h2 : missL [(-1, 2), (2, 3)] 1 = (1, 2) := by decide +kernel
      unfold nrD
      rw [h1, h2]
      rfl
    refine ⟨sz 2, sz 1, nd0, [(1, 2)], 1, rfl, by decide, by decide, o1, by decide, s1, ?_⟩
    rw [d1]
    refine ⟨sz 1, sz 2, sz 2, rfl, rfl, fun _ => ?_, nofun⟩
    refine ⟨sz 2, sz 2, sz 2, nd0, [(-1, 2), (2, 3)], 1, rfl, by decide, by decide, o2, by decide, s1, ?_⟩
    rw [d2]
    exact ⟨sz 2, sz 2, sz 2, rfl, rfl, ⟨⟩, q _⟩
end L3
namespace L3
open PySem PySem.Spec PyProof.Rows L2
local macro_rules | `(tactic| wtm_at "sh") => `(tactic| conv => whnf)
/-! ## nested data once more -/
theorem nest_lay : ∀ (n : Nat) (x : PyData), Nest n x → PyData.canLay0 x = true ∧ PyData.depth x ≤ n
  | 0, _, h => h.elim
  | n + 1, x, h => by
    have all : ∀ l : List PyData, (∀ y ∈ l, Nest n y) → PyData.canLayAll0 l = true ∧ PyData.depthAll l ≤ n := by
      intro l
      induction l with
      | nil => intro _; exact ⟨by simp [PyData.canLayAll0], by simp [PyData.depthAll]⟩
      | cons y l ih =>
        intro hl
        obtain ⟨h1, h2⟩ := nest_lay n y (hl y (by simp))
        obtain ⟨h3, h4⟩ := ih fun z hz => hl z (List.mem_cons_of_mem _ hz)
        refine ⟨by simp [PyData.canLayAll0, h1, h3], ?_⟩
        rw [PyData.depthAll]; omega
    cases x with
    | none => exact ⟨by simp [PyData.canLay0], by simp [PyData.depth]⟩
    | int i => exact ⟨by simp [PyData.canLay0], by simp [PyData.depth]⟩
    | str i =>
      refine ⟨?_, by simp [PyData.depth]⟩
      have h1 : SeqAt.shaped (.str i) = true := h
      unfold SeqAt.shaped at h1
      rw [Bool.and_eq_true] at h1
      exact h1.1
    | tuple l =>
      obtain ⟨h1, h2⟩ := all l h.2
      refine ⟨by simpa [PyData.canLay0] using h1, ?_⟩
      rw [PyData.depth]; omega
    | list l =>
      obtain ⟨h1, h2⟩ := all l h.2
      refine ⟨by simpa [PyData.canLay0] using h1, ?_⟩
      rw [PyData.depth]; omega
    | bool b => exact h.elim
    | dict l => exact h.elim
theorem nest_shaped {n : Nat} {x : PyData} (h : Nest n x) (hn : n ≤ 64) : SeqAt.shaped x = true := by
  obtain ⟨h1, h2⟩ := nest_lay n x h
  unfold SeqAt.shaped
  rw [Bool.and_eq_true]
  exact ⟨h1, decide_eq_true (by omega)⟩
theorem eqv_self {n : Nat} {x : PyData} (h : Nest n x) : PyData.eqv x x = true := PySem.SeqAt.eqv_refl x (nest_lay n x h).1
theorem nest_mono : ∀ {n m : Nat} {x : PyData}, Nest n x → n ≤ m → Nest m x
  | 0, _, _, h, _ => h.elim
  | n + 1, 0, _, h, k => absurd k (by omega)
  | n + 1, m + 1, x, h, k => by
    cases x with
    | none => exact h
    | int i => exact h
    | str i => exact h
    | tuple l => exact ⟨h.1, fun y hy => nest_mono (h.2 y hy) (by omega)⟩
    | list l => exact ⟨h.1, fun y hy => nest_mono (h.2 y hy) (by omega)⟩
    | bool b => exact h.elim
    | dict l => exact h.elim
theorem nest_ints {n : Nat} {l : List Int} (h : l.length < sizeLine) : Nest (n + 2) (.tuple (l.map PyData.int)) :=
  ⟨by rw [List.length_map]; exact h, fun y hy => by obtain ⟨z, _, rfl⟩ := List.mem_map.mp hy; exact ⟨⟩⟩
theorem nest_pr {n : Nat} (p : Int × Int) : Nest (n + 2) (prI p) :=
  ⟨show 2 < sizeLine by decide, fun y hy => by
    rcases List.mem_cons.mp hy with rfl | hy
    · exact ⟨⟩
    · rw [List.mem_singleton.mp hy]; exact ⟨⟩⟩
/-! ## best.py: the best ones -/
/-- a number with its row and its miss -/
def trD (l : List (Int × Int)) (q : Int) : PyData := .tuple [.int q, .tuple ((rowF l q).map PyData.int), prI (missL l q)]
theorem nest_tr {n : Nat} {l : List (Int × Int)} {q : Int} (h : l.length ≤ 1000) : Nest (n + 3) (trD l q) := by
  have a : 1000 < sizeLine := by decide
  refine ⟨show 3 < sizeLine by decide, fun x hx => ?_⟩
  rcases List.mem_cons.mp hx with rfl | hx
  · exact ⟨⟩
  rcases List.mem_cons.mp hx with rfl | hx
  · exact nest_ints (by unfold rowF; rw [List.length_map]; exact Nat.lt_of_le_of_lt h a)
  · rw [List.mem_singleton.mp hx]; exact nest_pr _
/-- one miss is less than another: the later one than the one ahead -/
def lessM (l : List (Int × Int)) (p q : Int) : Bool := isMore (missL l p) (missL l q)
def bestS (l : List (Int × Int)) (acc : List Int) (q : Int) : List Int := if acc = [] ∨ (∃ p, acc.getLast? = some p ∧ lessM l p q = true) then acc ++ [q] else acc
instance (l : List (Int × Int)) (acc : List Int) (q : Int) : Decidable (acc = [] ∨ (∃ p, acc.getLast? = some p ∧ lessM l p q = true)) := by
  cases h : acc.getLast? with
  | none => exact .isTrue (.inl (by simpa using h))
  | some p =>
    by_cases e : lessM l p q = true
    · exact .isTrue (.inr ⟨p, rfl, e⟩)
    · refine .isFalse fun h2 => ?_
      rcases h2 with h2 | ⟨p', h3, h4⟩
      · subst h2; cases h
      · cases h3; exact e h4
/-- the best numbers up to n -/
def bestL (l : List (Int × Int)) : Nat → List Int
  | 0 => []
  | n + 1 => bestS l (bestL l n) (n + 1 : Nat)
theorem bestL_mem {l : List (Int × Int)} : ∀ {n : Nat} {q : Int}, q ∈ bestL l n → 1 ≤ q ∧ q ≤ n
  | 0, q, h => by simp [bestL] at h
  | n + 1, q, h => by
    unfold bestL bestS at h
    split at h
    · rcases List.mem_append.mp h with h | h
      · have := bestL_mem h; omega
      · have := List.mem_singleton.mp h; omega
    · have := bestL_mem h; omega
theorem bestL_len (l : List (Int × Int)) : ∀ n : Nat, (bestL l n).length ≤ n
  | 0 => Nat.le_refl _
  | n + 1 => by
    have := bestL_len l n
    unfold bestL bestS
    split
    · rw [List.length_append]; simp; omega
    · omega
theorem bestL_ne (l : List (Int × Int)) (n : Nat) : bestL l (n + 1) ≠ [] := by
  unfold bestL bestS
  split
  · simp
  · rename_i h
    exact fun e => h (.inl e)
theorem bestL_cut {l : List (Int × Int)} {b : Nat} : ∀ {n : Nat}, b ≤ n → (bestL l n).filter (fun q => decide (q ≤ (b : Int))) = bestL l b
  | 0, h => by
    have : b = 0 := by omega
    subst this; rfl
  | n + 1, h => by
    rcases Nat.lt_or_ge n b with h1 | h1
    · have : b = n + 1 := by omega
      subst this
      rw [List.filter_eq_self]
      intro q hq
      have := bestL_mem hq
      exact decide_eq_true (by omega)
    · have ih := bestL_cut (l := l) h1
      show (bestS l (bestL l n) (n + 1 : Nat)).filter _ = _
      unfold bestS
      split
      · rw [List.filter_append, ih]
        have : decide (((n + 1 : Nat) : Int) ≤ (b : Int)) = false := decide_eq_false (by omega)
        rw [List.filter_cons, if_neg (by rw [this]; decide)]; simp
      · exact ih
theorem missL_ok {l : List (Int × Int)} {q : Int} (ok : OkA l) : 0 ≤ (missL l q).1 ∧ 0 < (missL l q).2 ∧ Sz 2000 (missL l q).1 ∧ Sz 2000 (missL l q).2 := by
  have m0 := missF_take (q := q) (fun p hp => (ok p hp).1) l.length
  rw [List.take_length] at m0
  obtain ⟨h0, h1, h2, h3⟩ := m0
  have sm : Sz 2000 (missF l q).2 := by
    rcases h3 with e | ⟨p, hp, e⟩
    · rw [e]; exact (show Sz 2 1 from by unfold Sz; decide).mono (by decide)
    · rw [e]; exact (ok p hp).2.2
  have hg : 0 < (Int.gcd (missF l q).1 (missF l q).2 : Int) := by
    have : Int.gcd (missF l q).1 (missF l q).2 ≠ 0 := fun e => by
      rw [Int.gcd_eq_zero_iff] at e
      omega
    omega
  have hd : (Int.gcd (missF l q).1 (missF l q).2 : Int) ≤ (missF l q).2 := Int.le_of_dvd h2 (Int.gcd_dvd_right ..)
  refine ⟨Int.ediv_nonneg h0 (by omega), ?_, (sm.le (by omega)).div hg, sm.div hg⟩
  have : 1 ≤ (missF l q).2 / (Int.gcd (missF l q).1 (missF l q).2 : Int) := Int.le_ediv_of_mul_le hg (by omega)
  show 0 < (missF l q).2 / (Int.gcd (missF l q).1 (missF l q).2 : Int)
  omega
theorem getI_last {α : Type} {l : List α} {x : α} (h : l.getLast? = some x) : getI l (-1) = some x := by
  have hne : l ≠ [] := fun e => by subst e; cases h
  have hl : 0 < l.length := List.length_pos_iff.mpr hne
  unfold getI
  rw [if_neg (by decide), if_pos (by omega), ← h, List.getLast?_eq_getElem?]
  congr 1
  omega
/-- found, as it stands -/
abbrev bT (l : List (Int × Int)) (p : Addr) (ns : List Int) : T := .own p (ns.map fun q => T.d (trD l q))
theorem bT_last {l : List (Int × Int)} {ns : List Int} {q : Int} (h : ns.getLast? = some q) : getI (ns.map fun q => T.d (trD l q)) (-1) = some (.d (trD l q)) := getI_last (by rw [List.getLast?_map, h]; rfl)
theorem nest_best {n : Nat} {l : List (Int × Int)} {ns : List Int} (h : l.length ≤ 1000) (k : ns.length < sizeLine) : Nest (n + 4) (.list (fzs (ns.map fun q => T.d (trD l q)))) := by
  rw [fzs_map]
  refine ⟨by rw [List.length_map]; exact k, fun x hx => ?_⟩
  obtain ⟨z, _, rfl⟩ := List.mem_map.mp hx
  exact nest_tr h
theorem eqv_nilL {l : List PyData} (h : l ≠ []) : PyData.eqv (.list l) (.list []) = false := by
  cases l with
  | nil => exact absurd rfl h
  | cons x l => simp only [PyData.eqv, PyData.eqvAll]
def N_best_to : List Str := ["asking", "bound", "found", "q", "row", "miss"]
def body_best_to : TS3 := (xSeq (xDrop (xCall sp_need_asking xNoE (xArg (xView 0) xANil)))
  (xSeq (xDrop (xCall sp_need_from_one xNoE (xArg (xView 1) xANil)))
  (xSeq (xAsg (xLst xNil) (xGName 2))
  (xSeq (xFor (xR2 (xC (.int 1)) (x2 kAdd (xView 1) (xC (.int 1)))) (xGName 3) (xSeq (xAsg (xCall sp_near_row xNoE (xArg (xView 0) (xArg (xView 3) xANil))) (xGTup 2 (xGCons (xGName 4) (xGCons (xGName 5) xGNil))))
  (xIfS (xOr (xTest (x2 kEq (xView 2) (xFz (xLst xNil)))) (xTest (xFz (xCall sp_is_more xNoE (xArg (x2 cIx (x2 cIx (xView 2) (xNeg (xC (.int 1)))) (xC (.int 2))) (xArg (xView 5) xANil)))))) (xDrop (xApp 2 (xTup (xCons (xMove 3) (xCons (xMove 4) (xCons (xMove 5) xNil)))))) xNext)))
  (xRet (xMove 2))))))

def sp_best_to : Sp3 := fun ts Q _ => ∃ l n, ts = [.d (asD l), .d (.int (n : Nat))] ∧ l ≠ [] ∧ l.length ≤ 1000 ∧ OkA l ∧ 1 ≤ n ∧ n ≤ 100000 ∧ ∀ p, Q (bT l p (bestL l n)) ts
theorem v_best_to (ts Q E) (h : sp_best_to ts Q E) : body_best_to { nx := fun r => finOk ts r ∧ Q (.d .none) (finF ts r), rt := fun x r => finOk ts r ∧ Q x (finF ts r) } (start3 N_best_to ts) := by
  obtain ⟨l, n, rfl, hl, hlen, ok, hn, hn2, h⟩ := h
  have hb : 100000 < sizeLine := by decide
  refine ⟨nd0, l, rfl, hl, fun p hp => (ok p hp).1, nd0, n, rfl, by omega, sz 0, fun p => ?_⟩
  refine ⟨⟨by decide, by decide, by omega, by omega⟩, fun i r => ∃ L a b c, r = [some (.d (asD l)), some (.d (.int (n : Nat))), some (.own p L), a, b, c] ∧ L = (bestL l i).map fun q => T.d (trD l q), ⟨_, _, _, _, rfl, rfl⟩, fun i x r hx hW => ?_, fun r hW => ?_⟩
  · obtain ⟨_, a, b, c, rfl, rfl⟩ := hW
    obtain ⟨hi, rfl⟩ := rangeI_get hx
    have e1 : (1 : Int) + (i : Nat) = ((i + 1 : Nat) : Int) := by omega
    rw [e1]
    have hi2 : i + 1 ≤ 100000 := by omega
    have lb := bestL_len l i
    have sq : Sz 2000 ((i + 1 : Nat) : Int) := by unfold Sz; exact Nat.lt_of_lt_of_le (show ((i + 1 : Nat) : Int).natAbs < 2 ^ 20 by omega) (Nat.pow_le_pow_right (by decide) (by decide))
    refine ⟨nd0, l, _, rfl, hl, hlen, ok, by omega, sq, rfl, sz 0, fun p2 => ⟨rfl, rfl, nvs_map _ _, nest_shaped (nest_best (n := 3) hlen (by omega)) (by decide), shp_nilL, fun hc => ?_, fun hc => ?_⟩⟩
    · have e0 : bestL l i = [] := Classical.byContradiction fun hne => by
        have := eqv_nilL (l := fzs ((bestL l i).map fun q => T.d (trD l q))) (by rw [fzs_map]; simpa using hne)
        rw [show PyData.eqv (.list (fzs ((bestL l i).map fun q => T.d (trD l q)))) (.list []) = true from hc] at this
        cases this
      have e2 : bestL l (i + 1) = bestL l i ++ [((i + 1 : Nat) : Int)] := if_pos (.inl e0)
      refine ⟨fun _ => ⟨sz 3, by rw [List.length_map]; omega, _, _, _, _, rfl, by rw [e2, List.map_append]; rfl⟩, nofun⟩
    · have e0 : bestL l i ≠ [] := fun e => by
        rw [e] at hc
        exact absurd (show PyData.eqv (.list []) (.list []) = false from hc) (by decide)
      obtain ⟨w, hw⟩ : ∃ w, (bestL l i).getLast? = some w := ⟨_, List.getLast?_eq_getLast e0⟩
      have mw := missL_ok (q := w) ok
      have mq := missL_ok (q := ((i + 1 : Nat) : Int)) ok
      refine ⟨rfl, _, bT_last hw, _, rfl, nd0, _, _, rfl, mw.2.2.1.mono (by decide), mw.2.2.2.mono (by decide), mq.2.2.1.mono (by decide), mq.2.2.2.mono (by decide), fun hc2 => ?_, fun hc2 => ?_⟩
      · have e2 : bestL l (i + 1) = bestL l i ++ [((i + 1 : Nat) : Int)] := if_pos (.inr ⟨w, hw, hc2⟩)
        exact ⟨sz 3, by rw [List.length_map]; omega, _, _, _, _, rfl, by rw [e2, List.map_append]; rfl⟩
      · have e2 : bestL l (i + 1) = bestL l i := if_neg fun h2 => by
          rcases h2 with h2 | ⟨w2, h3, h4⟩
          · exact e0 h2
          · rw [hw] at h3
            cases h3
            rw [show lessM l w ((i + 1 : Nat) : Int) = false from hc2] at h4
            cases h4
        exact ⟨_, _, _, _, rfl, by rw [e2]⟩
  · obtain ⟨_, a, b, c, rfl, rfl⟩ := hW
    have e : ((n : Int) + 1 - 1).toNat = n := by omega
    rw [rangeI_len]
    show finOk _ _ ∧ Q (bT l p (bestL l ((n : Int) + 1 - 1).toNat)) _
    rw [e]
    exact ⟨⟨⟩, h p⟩
end L3
namespace L3
open PySem PySem.Spec PyProof.Rows L2
local macro_rules | `(tactic| wtm_at "sh") => `(tactic| conv => whnf)
theorem DeckOk.nv {n : Nat} {l : List T} (h : DeckOk n l) : nvs l = true := by
  obtain ⟨c, cells, i, s, rfl, _⟩ := h
  have e : nvs (cells.map fun x => T.d (.int x)) = true := nvs_map _ _
  simp only [nvs, L3.nv, e, Bool.and_self]
theorem get_fz {α : Type} {f : α → PyData} {l : List α} {j : Nat} {x : PyData} (h : (fzs (l.map fun q => T.d (f q)))[j]? = some x) : ∃ q, l[j]? = some q ∧ x = f q := by
  rw [fzs_map, List.getElem?_map] at h
  cases e : l[j]? with
  | none => rw [e] at h; cases h
  | some q => rw [e] at h; exact ⟨q, rfl, (Option.some.inj h).symm⟩
def N_law_best_1 : List Str := ["_law_asking_here", "_law_bound", "_law_found", "_law_q", "_law_row", "_law_miss"]
def body_law_best_1 : TS3 := (xSeq (xAsg (xLst xNil) (xGName 2))
  (xSeq (xFor (xR2 (xC (.int 1)) (x2 kAdd (xView 1) (xC (.int 1)))) (xGName 3) (xSeq (xAsg (xCall sp_law_near_1 xNoE (xArg (xView 0) (xArg (xView 3) xANil))) (xGTup 2 (xGCons (xGName 4) (xGCons (xGName 5) xGNil))))
  (xIfS (xOr (xTest (x2 kEq (xView 2) (xFz (xLst xNil)))) (xTest (x2 kLt (x2 kMul (x2 cIx (xView 5) (xC (.int 0))) (x2 cIx (x2 cIx (x2 cIx (xView 2) (xNeg (xC (.int 1)))) (xC (.int 2))) (xC (.int 1)))) (x2 kMul (x2 cIx (x2 cIx (x2 cIx (xView 2) (xNeg (xC (.int 1)))) (xC (.int 2))) (xC (.int 0))) (x2 cIx (xView 5) (xC (.int 1))))))) (xDrop (xApp 2 (xTup (xCons (xMove 3) (xCons (xMove 4) (xCons (xMove 5) xNil)))))) xNext)))
  (xRet (xMove 2))))

theorem v_law_best_1 (ts Q E) (h : sp_best_to ts Q E) : body_law_best_1 { nx := fun r => finOk ts r ∧ Q (.d .none) (finF ts r), rt := fun x r => finOk ts r ∧ Q x (finF ts r) } (start3 N_law_best_1 ts) := by
  obtain ⟨l, n, rfl, hl, hlen, ok, hn, hn2, h⟩ := h
  have hb : 100000 < sizeLine := by decide
  refine ⟨sz 0, fun p => ?_⟩
  refine ⟨⟨by decide, by decide, by omega, by omega⟩, fun i r => ∃ L a b c, r = [some (.d (asD l)), some (.d (.int (n : Nat))), some (.own p L), a, b, c] ∧ L = (bestL l i).map fun q => T.d (trD l q), ⟨_, _, _, _, rfl, rfl⟩, fun i x r hx hW => ?_, fun r hW => ?_⟩
  · obtain ⟨_, a, b, c, rfl, rfl⟩ := hW
    obtain ⟨hi, rfl⟩ := rangeI_get hx
    have e1 : (1 : Int) + (i : Nat) = ((i + 1 : Nat) : Int) := by omega
    rw [e1]
    have hi2 : i + 1 ≤ 100000 := by omega
    have lb := bestL_len l i
    have sq : Sz 2000 ((i + 1 : Nat) : Int) := by unfold Sz; exact Nat.lt_of_lt_of_le (show ((i + 1 : Nat) : Int).natAbs < 2 ^ 20 by omega) (Nat.pow_le_pow_right (by decide) (by decide))
    refine ⟨nd0, l, _, rfl, hl, hlen, ok, by omega, sq, rfl, sz 0, fun p2 => ⟨rfl, rfl, nvs_map _ _, nest_shaped (nest_best (n := 3) hlen (by omega)) (by decide), shp_nilL, fun hc => ?_, fun hc => ?_⟩⟩
    · have e0 : bestL l i = [] := Classical.byContradiction fun hne => by
        have := eqv_nilL (l := fzs ((bestL l i).map fun q => T.d (trD l q))) (by rw [fzs_map]; simpa using hne)
        rw [show PyData.eqv (.list (fzs ((bestL l i).map fun q => T.d (trD l q)))) (.list []) = true from hc] at this
        cases this
      have e2 : bestL l (i + 1) = bestL l i ++ [((i + 1 : Nat) : Int)] := if_pos (.inl e0)
      refine ⟨fun _ => ⟨sz 3, by rw [List.length_map]; omega, _, _, _, _, rfl, by rw [e2, List.map_append]; rfl⟩, nofun⟩
    · have e0 : bestL l i ≠ [] := fun e => by
        rw [e] at hc
        exact absurd (show PyData.eqv (.list []) (.list []) = false from hc) (by decide)
      obtain ⟨w, hw⟩ : ∃ w, (bestL l i).getLast? = some w := ⟨_, List.getLast?_eq_getLast e0⟩
      have mw := missL_ok (q := w) ok
      have mq := missL_ok (q := ((i + 1 : Nat) : Int)) ok
      refine ⟨_, rfl, rfl, _, bT_last hw, _, rfl, _, rfl, mulOk mq.2.2.1 mw.2.2.2 (by decide), rfl, _, bT_last hw, _, rfl, _, rfl, _, rfl, mulOk mw.2.2.1 mq.2.2.2 (by decide), fun hc2 => ?_, fun hc2 => ?_⟩
      · have e2 : bestL l (i + 1) = bestL l i ++ [((i + 1 : Nat) : Int)] := if_pos (.inr ⟨w, hw, hc2⟩)
        exact ⟨sz 3, by rw [List.length_map]; omega, _, _, _, _, rfl, by rw [e2, List.map_append]; rfl⟩
      · have e2 : bestL l (i + 1) = bestL l i := if_neg fun h2 => by
          rcases h2 with h2 | ⟨w2, h3, h4⟩
          · exact e0 h2
          · rw [hw] at h3
            cases h3
            rw [show lessM l w ((i + 1 : Nat) : Int) = false from hc2] at h4
            cases h4
        exact ⟨_, _, _, _, rfl, by rw [e2]⟩
  · obtain ⟨_, a, b, c, rfl, rfl⟩ := hW
    have e : ((n : Int) + 1 - 1).toNat = n := by omega
    rw [rangeI_len]
    show finOk _ _ ∧ Q (bT l p (bestL l ((n : Int) + 1 - 1).toNat)) _
    rw [e]
    exact ⟨⟨⟩, h p⟩
def sp_law_best_1 : Sp3 := sp_best_to
def N_law_6 : List Str := ["_law_script", "_law_deck_here", "_law_turn", "_law_asking_here", "_law_most", "_law_due", "_law_bound", "_law_found", "_law_one"]
def body_law_6 : TS3 := (xSeq (xAsg (xCall sp_law_deck xNoE (xArg (xView 0) xANil)) (xGName 1))
  (xSeq (xFor (xR1 (xC (.int 4))) (xGName 2) (xSeq (xAsg (xCall sp_law_asking_1 xNoE (xIo 1 xANil)) (xGName 3))
  (xSeq (xAsg (xD (x2 cIx (xFz (xLst (xCons (xD (x2 kAdd (xC (.int 1)) (xFz (xCall sp_law_take xNoE (xIo 1 (xArg (xC (.int 3000)) xANil)))))) (xCons (xD (xC (.int 3000))) (xCons (xD (xC (.int 60))) (xCons (xD (xC (.int 400))) xNil)))))) (xFz (xCall sp_law_take xNoE (xIo 1 (xArg (xC (.int 4)) xANil)))))) (xGName 4))
  (xSeq (xAsg (xCall sp_law_best_1 xNoE (xArg (xView 3) (xArg (x2 kMax (xC (.int 2)) (xView 4)) xANil))) (xGName 5))
  (xFor (xSeqI (xFz (xLst (xCons (xMove 4) (xCons (xD (xC (.int 1))) (xCons (xD (xC (.int 2))) (xCons (xD (x2 kAdd (xC (.int 1)) (xFz (xCall sp_law_take xNoE (xIo 1 (xArg (xView 4) xANil)))))) (xCons (xMove 4) xNil)))))))) (xGName 6) (xSeq (xAsg (xCall sp_best_to xNoE (xArg (xView 3) (xArg (xView 6) xANil))) (xGName 7))
  (xSeq (xIfS (xBorT (xNot (xTest (xFz (xCall (sp_law_same_1 8) xNoE (xArg (xView 7) (xArg (xFz (xLc (xSeqI (xView 5)) (xGName 8) (xTest (x2 kLe (x2 cIx (xView 8) (xC (.int 0))) (xView 6))) (xMove 8) [8])) xANil))))))) (xRet (xD (xC (.bool false)))) xNext)
  (xDrop (xApp 7 (xD (x2 cIx (xView 7) (xC (.int 0)))))))))))))
  (xRet (xD (x2 kEq (xFz (xCall sp_best_to xNoE (xArg (xFz (xTup (xCons (xTup (xCons (xD (xC (.int 1))) (xCons (xD (xC (.int 3))) xNil))) (xCons (xTup (xCons (xD (xC (.int 1))) (xCons (xD (xC (.int 2))) xNil))) xNil)))) (xArg (xC (.int 6)) xANil)))) (xFz (xLst (xCons (xTup (xCons (xD (xC (.int 1))) (xCons (xTup (xCons (xD (xC (.int 0))) (xCons (xD (xC (.int 0))) xNil))) (xCons (xTup (xCons (xD (xC (.int 1))) (xCons (xD (xC (.int 2))) xNil))) xNil)))) (xCons (xTup (xCons (xD (xC (.int 2))) (xCons (xTup (xCons (xD (xC (.int 1))) (xCons (xD (xC (.int 1))) xNil))) (xCons (xTup (xCons (xD (xC (.int 1))) (xCons (xD (xC (.int 3))) xNil))) xNil)))) (xCons (xTup (xCons (xD (xC (.int 6))) (xCons (xTup (xCons (xD (xC (.int 2))) (xCons (xD (xC (.int 3))) xNil))) (xCons (xTup (xCons (xD (xC (.int 0))) (xCons (xD (xC (.int 1))) xNil))) xNil)))) xNil))))))))))

theorem v_law_6 (ts Q E) (h : spLaw ts Q E) : body_law_6 { nx := fun r => finOk ts r ∧ Q (.d .none) (finF ts r), rt := fun x r => finOk ts r ∧ Q x (finF ts r) } (start3 N_law_6 ts) := by
  obtain ⟨a, ns, rfl, hl, q⟩ := h
  have hb : 100000 < sizeLine := by decide
  refine ⟨nd0, a, ns, rfl, hl, fun dk l0 hd0 => ?_⟩
  refine ⟨by decide, by decide, fun i r => ∃ l b c d e f g, r = [some (.sc a ns), some (.own dk l), b, c, d, e, f, g, none] ∧ i ≤ 4 ∧ DeckOk (10000 + (4 - i) * 1000) l, ⟨l0, _, _, _, _, _, _, rfl, by decide, hd0.mono (by decide)⟩, fun i x r hx hW => ?_, fun r hW => ?_⟩
  · obtain ⟨l, b, c, d, e, f, g, rfl, hi, hd⟩ := hW
    obtain ⟨hi4, rfl⟩ := rangeI_get hx
    have hi4' : i < 4 := hi4
    refine ⟨nd1, 10000 + (3 - i) * 1000 + 900, dk, l, rfl, hd.mono (by omega), fun p l1 hp hd1 => ?_⟩
    obtain ⟨hne, hlen, hfr⟩ := hp
    have ok : OkA p := FrOk.ok hfr
    have okl : p.length ≤ 1000 := by omega
    refine ⟨nd1, 10000 + (3 - i) * 1000 + 899, dk, l1, _, rfl, hd1.mono (by omega), by decide, by decide, fun x1 l2 h10 h11 hd2 => ?_⟩
    refine ⟨sz 4, fun p4 => ⟨rfl, nd1, 10000 + (3 - i) * 1000 + 898, dk, l2, _, rfl, hd2.mono (by omega), by decide, by decide, fun x2 l3 h20 h21 hd3 => ?_⟩⟩
    obtain ⟨y, gy, _, my⟩ := getI_of (l := [PyData.int (1 + x1), .int 3000, .int 60, .int 400]) (i := x2) h20 (by simpa using h21)
    obtain ⟨k, rfl, hk1, hk2⟩ : ∃ k : Nat, y = .int (k : Nat) ∧ 1 ≤ k ∧ k ≤ 3000 := by
      simp only [List.mem_cons, List.not_mem_nil, or_false] at my
      rcases my with rfl | rfl | rfl | rfl
      · exact ⟨(1 + x1).toNat, by rw [Int.toNat_of_nonneg (by omega)], by omega, by omega⟩
      · exact ⟨3000, rfl, by decide, by decide⟩
      · exact ⟨60, rfl, by decide, by decide⟩
      · exact ⟨400, rfl, by decide, by decide⟩
    have ek : (max 2 (k : Int)) = ((max 2 k : Nat) : Int) := by omega
    have km : max 2 k ≤ 3000 := by omega
    refine ⟨_, gy, nd0, p, max 2 k, by rw [← ek], hne, okl, ok, by omega, by omega, fun pd => ?_⟩
    refine ⟨nd1, 10000 + (3 - i) * 1000 + 897, dk, l3, _, rfl, hd3.mono (by omega), by omega, by omega, fun x3 l4 h30 h31 hd4 => ⟨sz 5, fun p5 => ⟨rfl, ?_⟩⟩⟩
    have item : ∀ x ∈ [PyData.int (k : Nat), .int 1, .int 2, .int (1 + x3), .int (k : Nat)], ∃ b : Nat, x = .int (b : Nat) ∧ 1 ≤ b ∧ b ≤ max 2 k := fun x my => by
      simp only [List.mem_cons, List.not_mem_nil, or_false] at my
      rcases my with rfl | rfl | rfl | rfl | rfl
      · exact ⟨k, rfl, by omega, by omega⟩
      · exact ⟨1, rfl, by omega, by omega⟩
      · exact ⟨2, rfl, by omega, by omega⟩
      · exact ⟨(1 + x3).toNat, by rw [Int.toNat_of_nonneg (by omega)], by omega, by omega⟩
      · exact ⟨k, rfl, by omega, by omega⟩
    refine ⟨fun j r => ∃ u l u1 u2 u3, r = [some (.sc a ns), some (.own dk l), some (.d u), some (.d (asD p)), some (.d u1), some (bT p pd (bestL p (max 2 k))), u2, u3, none] ∧ DeckOk (10000 + (3 - i) * 1000) l, ⟨_, l4, _, _, _, rfl, hd4.mono (by omega)⟩, fun j x r hx hW => ?_, fun r hW => ?_⟩
    · obtain ⟨b, rfl, hb1, hb2⟩ := item x (List.mem_of_getElem? hx)
      obtain ⟨u, l, u1, u2, u3, rfl, hd⟩ := hW
      refine ⟨nd0, p, b, rfl, hne, okl, ok, hb1, by omega, fun pf => ?_⟩
      have sl : ∀ n : Nat, n ≤ 3000 → (bestL p n).length < sizeLine := fun n hn => by
        have := bestL_len p n
        omega
      have fin : ∀ acc : List T, acc = ((bestL p (max 2 k)).filter (fun q => decide (q ≤ (b : Int)))).map (fun q => T.d (trD p q)) → acc = (bestL p b).map fun q => T.d (trD p q) := fun acc e => by rw [e, bestL_cut hb2]
      refine ⟨⟨hd.nv, nvs_map _ _, nvs_map _ _, ⟨⟩⟩, fun pc => ⟨fun j acc r => r = [some (.sc a ns), some (.d (fz (.own dk l))), some (.d u), some (.d (asD p)), some (.d u1), some (.d (fz (bT p pd (bestL p (max 2 k))))), some (.d (.int (b : Nat))), some (.d (fz (bT p pf (bestL p b)))), none] ∧ acc = (((bestL p (max 2 k)).take j).filter (fun q => decide (q ≤ (b : Int)))).map (fun q => T.d (trD p q)), ⟨rfl, rfl⟩, fun j x acc r hx hW => ?_, fun acc r hW => ?_⟩⟩
      · obtain ⟨rfl, rfl⟩ := hW
        obtain ⟨y, hy, rfl⟩ := get_fz hx
        have s3 := sl (max 2 k) km
        have el : (((bestL p (max 2 k)).take j).filter (fun q => decide (q ≤ (b : Int)))).length ≤ (bestL p (max 2 k)).length := Nat.le_trans (List.length_filter_le ..) (by rw [List.length_take]; omega)
        refine ⟨_, rfl, fun hc => ⟨by rw [List.length_map]; omega, rfl, ?_⟩, fun hc => ⟨rfl, ?_⟩⟩
        · rw [take_succ hy, List.filter_append, List.map_append]
          have : decide (y ≤ (b : Int)) = true := hc
          rw [List.filter_cons, if_pos this]
          rfl
        · rw [take_succ hy, List.filter_append, List.map_append]
          have : ¬ decide (y ≤ (b : Int)) = true := by rw [show decide (y ≤ (b : Int)) = false from hc]; decide
          rw [List.filter_cons, if_neg this]
          simp
      · obtain ⟨rfl, hacc⟩ := hW
        rw [fzs_map, List.length_map, List.take_length] at hacc
        have ha := fin acc hacc
        subst ha
        have hbn : bestL p b ≠ [] := by
          match b, hb1 with
          | b + 1, _ => exact bestL_ne p b
        have s2 := sl b (by omega)
        obtain ⟨w, rest, hw⟩ : ∃ w rest, bestL p b = w :: rest := by
          cases e : bestL p b with
          | nil => exact absurd e hbn
          | cons w rest => exact ⟨w, rest, rfl⟩
        refine ⟨nvs_map _ _, nd0, _, rfl, nest_best (n := 4) okl s2, nofun, fun _ => ?_⟩
        refine ⟨rfl, .d (trD p w), by rw [hw]; rfl, by rw [List.length_map]; omega, _, l, _, _, _, rfl, hd⟩
    · obtain ⟨u, l, u1, u2, u3, rfl, hd⟩ := hW
      exact ⟨l, _, _, _, _, _, _, rfl, by omega, hd.mono (by omega)⟩
  · obtain ⟨l, b, c, d, e, f, g, rfl, hi, hd⟩ := hW
    have o1 : OkA [((1 : Int), (3 : Int)), (1, 2)] := FrOk.ok fun y hy => by
      rcases List.mem_cons.mp hy with rfl | hy
      · unfold FrOk; decide
      · rw [List.mem_singleton.mp hy]; unfold FrOk; decide
    have d1 : bestL [(1, 3), (1, 2)] 6 = [1, 2, 6] := by decide +kernel
    have r1 : rowF [(1, 3), (1, 2)] 1 = [0, 0] ∧ rowF [(1, 3), (1, 2)] 2 = [1, 1] ∧ rowF [(1, 3), (1, 2)] 6 = [2, 3] := by decide +kernel
    have m1 : missL [(1, 3), (1, 2)] 1 = (1, 2) ∧ missL [(1, 3), (1, 2)] 2 = (1, 3) ∧ missL [(1, 3), (1, 2)] 6 = (0, 1) := by decide +kernel
    refine ⟨sz 2, sz 2, sz 2, nd0, [(1, 3), (1, 2)], 6, rfl, by decide, by decide, o1, by decide, by decide, fun p => ⟨nvs_map _ _, ?_⟩⟩
    have d2 : fz (bT [(1, 3), (1, 2)] p [1, 2, 6]) = .list [.tuple [.int 1, .tuple [.int 0, .int 0], .tuple [.int 1, .int 2]], .tuple [.int 2, .tuple [.int 1, .int 1], .tuple [.int 1, .int 3]], .tuple [.int 6, .tuple [.int 2, .int 3], .tuple [.int 0, .int 1]]] := by
      show PyData.list [trD _ 1, trD _ 2, trD _ 6] = _
      simp only [trD, r1.1, r1.2.1, r1.2.2, m1.1, m1.2.1, m1.2.2]
      rfl
    rw [d1, d2]
    exact ⟨sz 2, sz 2, sz 3, sz 2, sz 2, sz 3, sz 2, sz 2, sz 3, sz 3, fun p2 => ⟨rfl, rfl, rfl, ⟨⟩, q _⟩⟩
end L3
namespace L3
open PySem PySem.Spec PyProof.Rows L2
local macro_rules | `(tactic| wtm_at "sh") => `(tactic| conv => whnf)
/-! ## best.py: the next better one -/
/-- what next_through tells -/
def NextIs (l : List (Int × Int)) (q : Int) (r : PyData) : Prop := ((missL l q).1 = 0 ∧ r = .none) ∨ ∃ m, (missL l q).1 ≠ 0 ∧ q < m ∧ lessM l q m = true ∧ (∀ j, q < j → j < m → lessM l q j = false) ∧ Sz 1900 m ∧ r = trD l m
theorem lessM_self (l : List (Int × Int)) (q : Int) : lessM l q q = false := decide_eq_false (by omega)
def N_next_through : List Str := ["asking", "q", "row", "least", "number", "miss"]
def body_next_through : TS3 := (xSeq (xAsg (xCall sp_near_row xNoE (xArg (xView 0) (xArg (xView 1) xANil))) (xGTup 2 (xGCons (xGName 2) (xGCons (xGName 3) xGNil))))
  (xSeq (xIfS (xTest (x2 kEqI (x2 cIx (xView 3) (xC (.int 0))) (xC (.int 0)))) (xRet (xD (xC .none))) xNext)
  (xSeq (xAsg (xMove 1) (xGName 4))
  (xSeq (xAsg (xMove 3) (xGName 5))
  (xSeq (xWhile (xNot (xTest (xFz (xCall sp_is_more xNoE (xArg (xView 3) (xArg (xView 5) xANil)))))) (xSeq (xAugAdd 4 (xC (.int 1)))
  (xAsg (xCall sp_near_row xNoE (xArg (xView 0) (xArg (xView 4) xANil))) (xGTup 2 (xGCons (xGName 2) (xGCons (xGName 5) xGNil))))))
  (xRet (xTup (xCons (xMove 4) (xCons (xMove 2) (xCons (xMove 5) xNil))))))))))

def sp_next_through : Sp3 := fun ts Q _ => ∃ l q r, ts = [.d (asD l), .d (.int q)] ∧ l ≠ [] ∧ l.length ≤ 1000 ∧ OkA l ∧ 1 ≤ q ∧ Sz 1900 q ∧ NextIs l q r ∧ Q (.d r) ts
theorem v_next_through (ts Q E) (h : sp_next_through ts Q E) : body_next_through { nx := fun r => finOk ts r ∧ Q (.d .none) (finF ts r), rt := fun x r => finOk ts r ∧ Q x (finF ts r) } (start3 N_next_through ts) := by
  obtain ⟨l, q, r0, rfl, hl, hlen, ok, hq, sq, hr, h⟩ := h
  refine ⟨nd0, l, q, rfl, hl, hlen, ok, hq, sq.mono (by decide), rfl, _, rfl, fun hc => ?_, fun hc => ?_⟩
  · rcases hr with ⟨_, rfl⟩ | ⟨m, hm, _⟩
    · exact ⟨⟨⟩, h⟩
    · exact absurd (of_decide_eq_true hc) hm
  · rcases hr with ⟨hm, _⟩ | ⟨m, _, hqm, hless, hno, sm, rfl⟩
    · exact absurd hm (of_decide_eq_false hc)
    · refine ⟨fun k r => ∃ x, r = [some (.d (asD l)), some (.d (.int q)), some (.d (.tuple ((rowF l x).map PyData.int))), some (.d (prI (missL l q))), some (.d (.int x)), some (.d (prI (missL l x)))] ∧ q ≤ x ∧ x ≤ m ∧ k = (m - x).toNat, ⟨_, q, rfl, by omega, by omega, rfl⟩, fun k r hW => ?_⟩
      obtain ⟨x, rfl, h1, h2, rfl⟩ := hW
      have m1 := missL_ok (q := q) ok
      have m2 := missL_ok (q := x) ok
      refine ⟨nd0, _, _, rfl, m1.2.2.1.mono (by decide), m1.2.2.2.mono (by decide), m2.2.2.1.mono (by decide), m2.2.2.2.mono (by decide), fun hc => ?_, fun hc => ?_⟩
      · have hx : lessM l q x = false := by
          have h3 : (!lessM l q x) = true := hc
          revert h3
          cases lessM l q x <;> simp
        have hxm : x ≠ m := fun e => by
          rw [e, hless] at hx; cases hx
        have sx : Sz 2000 (x + 1) := (sm.le (i := x + 1) (by omega)).mono (by decide)
        exact ⟨⟨⟩, nd0, l, x + 1, rfl, hl, hlen, ok, by omega, sx, rfl, _, by omega, x + 1, rfl, by omega, by omega, rfl⟩
      · have hx : lessM l q x = true := by
          have h3 : (!lessM l q x) = false := hc
          revert h3
          cases lessM l q x <;> simp
        have hxm : x = m := Classical.byContradiction fun hne => by
          by_cases e : x = q
          · rw [e, lessM_self] at hx; cases hx
          · rw [hno x (by omega) (by omega)] at hx; cases hx
        subst hxm
        exact ⟨sz 3, ⟨⟩, h⟩
def N_law_next_1 : List Str := ["_law_asking_here", "_law_q", "_law_least", "_law_number", "_law_row", "_law_miss"]
def body_law_next_1 : TS3 := (xSeq (xAsg (xD (x2 cIx (xFz (xCall sp_law_near_1 xNoE (xArg (xView 0) (xArg (xView 1) xANil)))) (xC (.int 1)))) (xGName 2))
  (xSeq (xIfS (xTest (x2 kEqI (x2 cIx (xView 2) (xC (.int 0))) (xC (.int 0)))) (xRet (xD (xC .none))) xNext)
  (xSeq (xFor (xR2 (x2 kAdd (xView 1) (xC (.int 1))) (xC (.int 3001))) (xGName 3) (xSeq (xAsg (xCall sp_law_near_1 xNoE (xArg (xView 0) (xArg (xView 3) xANil))) (xGTup 2 (xGCons (xGName 4) (xGCons (xGName 5) xGNil))))
  (xIfS (xTest (x2 kLt (x2 kMul (x2 cIx (xView 5) (xC (.int 0))) (x2 cIx (xView 2) (xC (.int 1)))) (x2 kMul (x2 cIx (xView 2) (xC (.int 0))) (x2 cIx (xView 5) (xC (.int 1)))))) (xRet (xTup (xCons (xMove 3) (xCons (xMove 4) (xCons (xMove 5) xNil))))) xNext)))
  (xRet (xD (xC (.str "far")))))))

def sp_law_next_1 : Sp3 := fun ts Q _ => ∃ l q, ts = [.d (asD l), .d (.int q)] ∧ l ≠ [] ∧ l.length ≤ 1000 ∧ OkA l ∧ 1 ≤ q ∧ q ≤ 3000 ∧ ∀ r, (NextIs l q r ∨ r = .str "far") → Q (.d r) ts
theorem v_law_next_1 (ts Q E) (h : sp_law_next_1 ts Q E) : body_law_next_1 { nx := fun r => finOk ts r ∧ Q (.d .none) (finF ts r), rt := fun x r => finOk ts r ∧ Q x (finF ts r) } (start3 N_law_next_1 ts) := by
  obtain ⟨l, q, rfl, hl, hlen, ok, hq, hq2, h⟩ := h
  have sz' : ∀ x : Int, 0 ≤ x → x ≤ 4000 → Sz 1900 x := fun x h0 h1 => by unfold Sz; exact Nat.lt_of_lt_of_le (show x.natAbs < 2 ^ 20 by omega) (Nat.pow_le_pow_right (by decide) (by decide))
  refine ⟨nd0, l, q, rfl, hl, hlen, ok, hq, (sz' q (by omega) (by omega)).mono (by decide), _, rfl, _, rfl, fun hc => ⟨⟨⟩, h _ (.inl (.inl ⟨of_decide_eq_true hc, rfl⟩))⟩, fun hc => ?_⟩
  have hm : (missL l q).1 ≠ 0 := of_decide_eq_false hc
  refine ⟨⟨by omega, by omega, by decide, by decide⟩, fun i r => ∃ a b c, r = [some (.d (asD l)), some (.d (.int q)), some (.d (prI (missL l q))), a, b, c] ∧ ∀ j, q < j → j < q + 1 + (i : Nat) → lessM l q j = false, ⟨_, _, _, rfl, fun j h1 h2 => by omega⟩, fun i x r hx hW => ?_, fun r hW => ?_⟩
  · obtain ⟨a, b, c, rfl, hno⟩ := hW
    obtain ⟨hi, rfl⟩ := rangeI_get hx
    have hi2 : q + 1 + (i : Nat) ≤ 3000 := by omega
    have m1 := missL_ok (q := q) ok
    have m2 := missL_ok (q := q + 1 + (i : Nat)) ok
    refine ⟨nd0, l, _, rfl, hl, hlen, ok, by omega, (sz' _ (by omega) (by omega)).mono (by decide), rfl, _, rfl, _, rfl, mulOk m2.2.2.1 m1.2.2.2 (by decide), _, rfl, _, rfl, mulOk m1.2.2.1 m2.2.2.2 (by decide), fun hc => ?_, fun hc => ?_⟩
    · exact ⟨sz 3, ⟨⟩, h _ (.inl (.inr ⟨_, hm, by omega, hc, hno, sz' _ (by omega) (by omega), rfl⟩))⟩
    · refine ⟨_, _, _, rfl, fun j h1 h2 => ?_⟩
      by_cases e : j = q + 1 + (i : Nat)
      · subst e; exact hc
      · exact hno j h1 (by omega)
  · obtain ⟨a, b, c, rfl, hno⟩ := hW
    exact ⟨⟨⟩, h _ (.inr rfl)⟩
def N_law_numbers : List Str := ["_law_deck_here", "_law_asking_here", "_law_common", "_law_above", "_law_below_here", "_law_found"]
def body_law_numbers : TS3 := (xSeq (xAsg (xD (xC (.int 1))) (xGName 2))
  (xSeq (xFor (xSeqI (xView 1)) (xGTup 2 (xGCons (xGName 3) (xGCons (xGName 4) xGNil))) (xAsg (xD (x2 kMul (xView 2) (xView 4))) (xGName 2)))
  (xSeq (xAsg (xLst (xCons (xD (xC (.int 1))) (xCons (xD (x2 kAdd (xC (.int 1)) (xFz (xCall sp_law_take xNoE (xIo 0 (xArg (xC (.int 60)) xANil)))))) (xCons (xD (x2 kAdd (xC (.int 1)) (xFz (xCall sp_law_take xNoE (xIo 0 (xArg (xC (.int 3000)) xANil)))))) (xCons (xD (xC (.int 2))) xNil))))) (xGName 5))
  (xSeq (xIfS (xTest (x2 kLe (xView 2) (xC (.int 3000)))) (xAsg (x2 cAdd (xView 5) (xFz (xLst (xCons (xMove 2) (xCons (xD (x2 kMax (xC (.int 1)) (x2 kSub (xView 2) (xC (.int 1))))) (xCons (xD (x2 kMin (xC (.int 3000)) (x2 kAdd (xView 2) (xC (.int 1))))) xNil)))))) (xGName 5)) xNext)
  (xRet (xMove 5))))))

def sp_law_numbers : Sp3 := fun ts Q _ => ∃ n a l p, ts = [.own a l, .d (asD p)] ∧ DeckOk (n + 10) l ∧ OkA p ∧ p.length ≤ 3 ∧ ∀ pf (ys : List Int) l', DeckOk n l' → (∀ y ∈ ys, 1 ≤ y ∧ y ≤ 3000) → ys.length ≤ 10 → Q (.own pf (ys.map fun (y : Int) => T.d (.int y))) [.own a l', .d (asD p)]
theorem v_law_numbers (ts Q E) (h : sp_law_numbers ts Q E) : body_law_numbers { nx := fun r => finOk ts r ∧ Q (.d .none) (finF ts r), rt := fun x r => finOk ts r ∧ Q x (finF ts r) } (start3 N_law_numbers ts) := by
  obtain ⟨n, a, l, p, rfl, hd, ok, hlen, h⟩ := h
  refine ⟨fun i r => ∃ x b c, r = [some (.own a l), some (.d (asD p)), some (.d (.int x)), b, c, none] ∧ 1 ≤ x ∧ Sz (1 + 2000 * i) x ∧ i ≤ p.length, ⟨1, _, _, rfl, by decide, by unfold Sz; decide, by omega⟩, fun i x r hx hW => ?_, fun r hW => ?_⟩
  · obtain ⟨y, b, c, rfl, h1, h2, h3⟩ := hW
    obtain ⟨z, hz, rfl, hm⟩ := get_map hx
    obtain ⟨hb, sa, sb⟩ := ok z hm
    have hi : i < p.length := (List.getElem?_eq_some_iff.mp hz).1
    have : 1 ≤ y * z.2 := by
      have := Int.mul_le_mul (a := 1) (b := 1) h1 (show (1 : Int) ≤ z.2 by omega) (by decide) (by omega)
      omega
    exact ⟨rfl, mulOk h2 sb (by omega), _, _, _, rfl, this, (h2.mul sb).mono (by omega), by omega⟩
  · obtain ⟨y, b, c, rfl, h1, h2, h3⟩ := hW
    refine ⟨nd1, n + 9, a, l, _, rfl, hd, by decide, by decide, fun x1 l1 h10 h11 hd1 => ⟨nd1, n + 8, a, l1, _, rfl, hd1, by decide, by decide, fun x2 l2 h20 h21 hd2 => ⟨sz 4, fun pf => ?_⟩⟩⟩
    refine ⟨fun hc => ?_, fun hc => ⟨⟨rfl, ⟨⟩⟩, h pf [1, 1 + x1, 1 + x2, 2] l2 (hd2.mono (by omega)) (fun z hz => ?_) (by simp)⟩⟩
    · have hy : y ≤ 3000 := of_decide_eq_true hc
      refine ⟨sz 3, fun p2 => ⟨rfl, rfl, rfl, sz 7, fun p3 => ⟨⟨rfl, ⟨⟩⟩, h p3 [1, 1 + x1, 1 + x2, 2, y, max 1 (y - 1), min 3000 (y + 1)] l2 (hd2.mono (by omega)) (fun z hz => ?_) (by simp)⟩⟩⟩
      simp only [List.mem_cons, List.not_mem_nil, or_false] at hz
      rcases hz with rfl | rfl | rfl | rfl | rfl | rfl | rfl <;> omega
    · simp only [List.mem_cons, List.not_mem_nil, or_false] at hz
      rcases hz with rfl | rfl | rfl | rfl <;> omega
def L1_law_7 : TS3 := (xFor (xR1 (x2 kMul (xC (.int 2)) (x1 cInt (x2 kNe (xView 6) (xC (.str "far")))))) (xGName 7) (xIfS (xNot (xTest (xFz (xCall (sp_law_same_1 8) xNoE (xArg (xFz (xCall sp_next_through xNoE (xArg (xView 3) (xArg (xView 5) xANil)))) (xArg (xView 6) xANil)))))) (xRet (xD (xC (.bool false)))) xNext))
def L2_law_7 : TS3 := (xFor (xSeqI (xFz (xCall sp_law_numbers xNoE (xIo 1 (xArg (xView 3) xANil))))) (xGName 5) (xSeq (xAsg (xCall sp_law_next_1 xNoE (xArg (xView 3) (xArg (xView 5) xANil))) (xGName 6))
  L1_law_7))
def L3_law_7 : TS3 := (xFor (xR1 (xC (.int 4))) (xGName 2) (xSeq (xAsg (xCall sp_law_asking_1 xNoE (xIo 1 xANil)) (xGName 3))
  (xSeq (xIfS (xTest (x2 kGt (xView 2) (xC (.int 1)))) (xSeq (xAsg (xD (x2 cIx (xFz (xLst (xCons (xD (xC (.int 14))) (xCons (xD (xC (.int 40))) (xCons (xD (xC (.int 3000))) xNil))))) (xFz (xCall sp_law_take xNoE (xIo 1 (xArg (xC (.int 3)) xANil)))))) (xGName 4))
  (xAsg (xD (x1 cTup (xFz (xLc (xSeqI (xView 3)) (xGTup 2 (xGCons (xGName 8) (xGCons (xGName 9) xGNil))) xYes (xTup (xCons (xMove 8) (xCons (xD (x2 kAdd (xC (.int 1)) (x2 kMod (xView 9) (xView 4)))) xNil))) [8, 9])))) (xGName 3))) xNext)
  L2_law_7)))
def N_law_7 : List Str := ["_law_script", "_law_deck_here", "_law_turn", "_law_asking_here", "_law_size", "_law_q", "_law_due", "_law_again", "_law_above", "_law_below_here"]
def body_law_7 : TS3 := (xSeq (xAsg (xCall sp_law_deck xNoE (xArg (xView 0) xANil)) (xGName 1))
  (xSeq L3_law_7
  (xRet (xD (xAndV (x2 kIsN (xFz (xCall sp_next_through xNoE (xArg (xFz (xTup (xCons (xTup (xCons (xD (xC (.int 1))) (xCons (xD (xC (.int 3))) xNil))) xNil))) (xArg (xC (.int 3)) xANil)))) (xC .none)) (x2 kEq (xFz (xCall sp_next_through xNoE (xArg (xFz (xTup (xCons (xTup (xCons (xD (xC (.int 1))) (xCons (xD (xC (.int 3))) xNil))) xNil))) (xArg (xC (.int 1)) xANil)))) (xFz (xTup (xCons (xD (xC (.int 3))) (xCons (xTup (xCons (xD (xC (.int 1))) xNil)) (xCons (xTup (xCons (xD (xC (.int 0))) (xCons (xD (xC (.int 1))) xNil))) xNil)))))))))))

theorem nest_next {p : List (Int × Int)} {y : Int} {r : PyData} (hp : p.length ≤ 1000) (h : NextIs p y r) : Nest 8 r := by
  rcases h with ⟨_, rfl⟩ | ⟨m, _, _, _, _, _, rfl⟩
  · exact ⟨⟩
  · exact nest_tr (n := 5) hp
theorem not_far {p : List (Int × Int)} {y : Int} {r : PyData} (h : NextIs p y r) : PyData.eqv r (.str "far") = false := by
  rcases h with ⟨_, rfl⟩ | ⟨m, _, _, _, _, _, rfl⟩
  · simp only [PyData.eqv]
  · simp only [trD, PyData.eqv]
theorem v_L2_law_7 {D : Ends3} {a dk : Addr} {ns : List Int} {l : List T} {n : Nat} {p : List (Int × Int)} {b c d e f : Option T} (hd : DeckOk (n + 10) l) (ok : OkA p) (hne : p ≠ []) (hlen : p.length ≤ 3)
    (q : ∀ l' d e f, DeckOk n l' → D.nx [some (.sc a ns), some (.own dk l'), b, some (.d (asD p)), c, d, e, f, none, none]) :
    L2_law_7 D [some (.sc a ns), some (.own dk l), b, some (.d (asD p)), c, d, e, f, none, none] := by
  have sfar : SeqAt.shaped (.str "far") = true := by decide +kernel
  have efar : PyData.eqv (.str "far") (.str "far") = true := by decide +kernel
  refine ⟨nd1, n, dk, l, p, rfl, hd, ok, hlen, fun pf ys l' hd' hys hyl => ⟨nvs_map _ _, ?_⟩⟩
  refine ⟨fun j r => ∃ d e f, r = [some (.sc a ns), some (.own dk l'), b, some (.d (asD p)), c, d, e, f, none, none], ⟨_, _, _, rfl⟩, fun j x r hx hW => ?_, fun r hW => ?_⟩
  · obtain ⟨d, e, f, rfl⟩ := hW
    obtain ⟨y, hy, rfl⟩ := get_fz (f := fun (y : Int) => PyData.int y) hx
    obtain ⟨y1, y2⟩ := hys y (List.mem_of_getElem? hy)
    have sy : Sz 1900 y := by unfold Sz; exact Nat.lt_of_lt_of_le (show y.natAbs < 2 ^ 20 by omega) (Nat.pow_le_pow_right (by decide) (by decide))
    refine ⟨nd0, p, y, rfl, hne, by omega, ok, y1, y2, fun r0 hr0 => ?_⟩
    rcases hr0 with hr0 | rfl
    · have n8 := nest_next (by omega) hr0
      refine ⟨nest_shaped n8 (by decide), sfar, ?_⟩
      rw [not_far hr0]
      refine ⟨mulOkL (by decide) (by decide), by decide, by decide, fun j r => ∃ f, r = [some (.sc a ns), some (.own dk l'), b, some (.d (asD p)), c, some (.d (.int y)), some (.d r0), f, none, none], ⟨_, rfl⟩, fun j x r hx hW => ?_, fun r hW => ?_⟩
      · obtain ⟨f, rfl⟩ := hW
        exact ⟨nd0, p, y, r0, rfl, hne, by omega, ok, y1, sy, hr0, nd0, r0, rfl, n8, nofun, fun _ => ⟨_, rfl⟩⟩
      · obtain ⟨f, rfl⟩ := hW
        exact ⟨_, _, _, rfl⟩
    · refine ⟨sfar, sfar, ?_⟩
      rw [efar]
      refine ⟨mulOkL (by decide) (by decide), by decide, by decide, fun j r => j = 0 ∧ ∃ f, r = [some (.sc a ns), some (.own dk l'), b, some (.d (asD p)), c, some (.d (.int y)), some (.d (.str "far")), f, none, none], ⟨rfl, _, rfl⟩, fun j x r hx hW => ?_, fun r hW => ?_⟩
      · obtain ⟨hi, _⟩ := rangeI_get hx
        exact absurd hi (by simp)
      · obtain ⟨_, f, rfl⟩ := hW
        exact ⟨_, _, _, rfl⟩
  · obtain ⟨d, e, f, rfl⟩ := hW
    exact q _ _ _ _ hd'
theorem v_law_7 (ts Q E) (h : spLaw ts Q E) : body_law_7 { nx := fun r => finOk ts r ∧ Q (.d .none) (finF ts r), rt := fun x r => finOk ts r ∧ Q x (finF ts r) } (start3 N_law_7 ts) := by
  obtain ⟨a, ns, rfl, hl, q⟩ := h
  refine ⟨nd0, a, ns, rfl, hl, fun dk l0 hd0 => ?_⟩
  refine ⟨by decide, by decide, fun i r => ∃ l b c d e f g, r = [some (.sc a ns), some (.own dk l), b, c, d, e, f, g, none, none] ∧ i ≤ 4 ∧ DeckOk (10000 + (4 - i) * 1000) l, ⟨l0, _, _, _, _, _, _, rfl, by decide, hd0.mono (by decide)⟩, fun i x r hx hW => ?_, fun r hW => ?_⟩
  · obtain ⟨l, b, c, d, e, f, g, rfl, hi, hd⟩ := hW
    obtain ⟨hi4, rfl⟩ := rangeI_get hx
    have hi4' : i < 4 := hi4
    refine ⟨nd1, 10000 + (3 - i) * 1000 + 900, dk, l, rfl, hd.mono (by omega), fun p l1 hp hd1 => ?_⟩
    obtain ⟨hne, hlen, hfr⟩ := hp
    have ok : OkA p := FrOk.ok hfr
    refine ⟨fun hc => ?_, fun hc => v_L2_law_7 (n := 10000 + (3 - i) * 1000) (hd1.mono (by omega)) ok hne hlen fun l' d e f hd' => ⟨l', _, _, _, _, _, _, rfl, by omega, hd'.mono (by omega)⟩⟩
    refine ⟨sz 3, fun p3 => ⟨rfl, nd1, 10000 + (3 - i) * 1000 + 800, dk, l1, _, rfl, hd1.mono (by omega), by decide, by decide, fun x1 l2 h10 h11 hd2 => ?_⟩⟩
    obtain ⟨s, gs, _, ms⟩ := getI_of (l := [PyData.int 14, .int 40, .int 3000]) (i := x1) h10 (by simpa using h11)
    obtain ⟨s, rfl, hs1, hs2⟩ : ∃ s' : Int, s = .int s' ∧ 0 < s' ∧ s' ≤ 3000 := by
      simp only [List.mem_cons, List.not_mem_nil, or_false] at ms
      rcases ms with rfl | rfl | rfl
      · exact ⟨_, rfl, by decide, by decide⟩
      · exact ⟨_, rfl, by decide, by decide⟩
      · exact ⟨_, rfl, by decide, by decide⟩
    refine ⟨_, gs, fun pl => ⟨fun j acc r => r = [some (.sc a ns), some (.own dk l2), some (.d (.int (0 + (i : Nat)))), some (.d (asD p)), some (.d (.int s)), e, f, g, none, none] ∧ acc = (p.take j).map (fun z => T.d (prI (z.1, 1 + z.2 % s))), ⟨rfl, rfl⟩, fun j x acc r hx hW => ?_, fun acc r hW => ?_⟩⟩
    · obtain ⟨rfl, rfl⟩ := hW
      obtain ⟨z, hz, rfl, hm⟩ := get_map hx
      have hb : 100000 < sizeLine := by decide
      exact ⟨rfl, fun _ => ⟨hs1, sz 2, by rw [List.length_map, List.length_take]; omega, rfl, by rw [take_succ hz, List.map_append]; rfl⟩, nofun⟩
    · obtain ⟨rfl, hacc⟩ := hW
      rw [List.length_map, List.take_length] at hacc
      subst hacc
      refine ⟨nvs_map _ _, ?_⟩
      have e1 : fz (T.own pl (p.map fun z => T.d (prI (z.1, 1 + z.2 % s)))) = .list ((p.map fun z => (z.1, 1 + z.2 % s)).map prI) := by
        show PyData.list (fzs (p.map fun z => T.d (prI (z.1, 1 + z.2 % s)))) = _
        rw [fzs_map, List.map_map]
        rfl
      rw [e1]
      have ok2 : OkA (p.map fun z => (z.1, 1 + z.2 % s)) := FrOk.ok fun y hy => by
        obtain ⟨z, hz, rfl⟩ := List.mem_map.mp hy
        have h1 := hfr z hz
        have h2 := Int.emod_nonneg z.2 (show s ≠ 0 by omega)
        have h3 := Int.emod_lt_of_pos z.2 hs1
        exact ⟨by show 0 < 1 + z.2 % s; omega, by show 1 + z.2 % s ≤ _; omega, h1.2.2.1, h1.2.2.2⟩
      exact v_L2_law_7 (n := 10000 + (3 - i) * 1000) (hd2.mono (by omega)) ok2 (by simpa using hne) (by simpa using hlen) fun l' d e f hd' => ⟨l', _, _, _, _, _, _, rfl, by omega, hd'.mono (by omega)⟩
  · obtain ⟨l, b, c, d, e, f, g, rfl, hi, hd⟩ := hW
    have o1 : OkA [((1 : Int), (3 : Int))] := FrOk.ok fun y hy => by rw [List.mem_singleton.mp hy]; unfold FrOk; decide
    have s1 : ∀ x : Int, 0 ≤ x → x ≤ 4000 → Sz 1900 x := fun x h0 h1 => by unfold Sz; exact Nat.lt_of_lt_of_le (show x.natAbs < 2 ^ 20 by omega) (Nat.pow_le_pow_right (by decide) (by decide))
    have m1 : missL [(1, 3)] 3 = (0, 1) ∧ missL [(1, 3)] 1 ≠ (0, 1) ∧ (missL [(1, 3)] 1).1 ≠ 0 := by decide +kernel
    have l1 : lessM [(1, 3)] 1 2 = false ∧ lessM [(1, 3)] 1 3 = true := by decide +kernel
    have d1 : trD [(1, 3)] 3 = .tuple [.int 3, .tuple [.int 1], .tuple [.int 0, .int 1]] := by
      have r1 : rowF [(1, 3)] 3 = [1] := by decide +kernel
      unfold trD
      rw [r1, m1.1]
      rfl
    refine ⟨sz 2, sz 1, nd0, [(1, 3)], 3, .none, rfl, by decide, by decide, o1, by decide, s1 _ (by decide) (by decide), .inl ⟨by rw [m1.1], rfl⟩, ⟨⟩, fun _ => ?_, nofun⟩
    refine ⟨sz 2, sz 1, nd0, [(1, 3)], 1, trD [(1, 3)] 3, rfl, by decide, by decide, o1, by decide, s1 _ (by decide) (by decide), .inr ⟨3, m1.2.2, by decide, l1.2, fun j h1 h2 => ?_, s1 _ (by decide) (by decide), rfl⟩, ?_⟩
    · have : j = 2 := by omega
      rw [this]; exact l1.1
    · rw [d1]
      exact ⟨sz 1, sz 2, sz 3, rfl, rfl, ⟨⟩, q _⟩
end L3
namespace L3
open PySem PySem.Spec PyProof.Rows L2
local macro_rules | `(tactic| wtm_at "sh") => `(tactic| conv => whnf)
/-! ## the best ones: what stands in their list -/
theorem more_flip {a x b : Int × Int} (ha : 0 < a.2) (hx : 0 < x.2) (hb : 0 < b.2) (h : isMore a x = false) (k : isMore a b = true) : isMore x b = true := by
  have h1 : ¬ (x.1 * a.2 < a.1 * x.2) := of_decide_eq_false h
  have k1 : b.1 * a.2 < a.1 * b.2 := of_decide_eq_true k
  refine decide_eq_true ?_
  have e1 : b.1 * a.2 * x.2 < a.1 * b.2 * x.2 := Int.mul_lt_mul_of_pos_right k1 hx
  have e2 : a.1 * x.2 * b.2 ≤ x.1 * a.2 * b.2 := Int.mul_le_mul_of_nonneg_right (by omega) (by omega)
  have e3 : b.1 * x.2 * a.2 < x.1 * b.2 * a.2 := by
    have a1 : b.1 * x.2 * a.2 = b.1 * a.2 * x.2 := by rw [Int.mul_assoc, Int.mul_comm x.2, ← Int.mul_assoc]
    have a2 : x.1 * b.2 * a.2 = x.1 * a.2 * b.2 := by rw [Int.mul_assoc, Int.mul_comm b.2, ← Int.mul_assoc]
    have a3 : a.1 * b.2 * x.2 = a.1 * x.2 * b.2 := by rw [Int.mul_assoc, Int.mul_comm b.2, ← Int.mul_assoc]
    omega
  exact Int.lt_of_mul_lt_mul_right e3 (by omega)
theorem more_not {a b j : Int × Int} (ha : 0 < a.2) (hb : 0 < b.2) (hj : 0 < j.2) (h : isMore a j = false) (k : isMore a b = true) : isMore b j = false := by
  have h1 := more_flip ha hj hb h k
  have h2 : b.1 * j.2 < j.1 * b.2 := of_decide_eq_true h1
  exact decide_eq_false (by omega)
theorem lessM_flip {l : List (Int × Int)} (ok : OkA l) {a x b : Int} (h : lessM l a x = false) (k : lessM l a b = true) : lessM l x b = true := more_flip (missL_ok ok).2.1 (missL_ok ok).2.1 (missL_ok ok).2.1 h k
theorem lessM_not {l : List (Int × Int)} (ok : OkA l) {a b j : Int} (h : lessM l a j = false) (k : lessM l a b = true) : lessM l b j = false := more_not (missL_ok ok).2.1 (missL_ok ok).2.1 (missL_ok ok).2.1 h k
theorem lessM_pos {l : List (Int × Int)} (ok : OkA l) {a b : Int} (k : lessM l a b = true) : (missL l a).1 ≠ 0 := fun e => by
  have k1 : (missL l b).1 * (missL l a).2 < (missL l a).1 * (missL l b).2 := of_decide_eq_true k
  rw [e, Int.zero_mul] at k1
  have := Int.mul_nonneg (missL_ok (q := b) ok).1 (Int.le_of_lt (missL_ok (q := a) ok).2.1)
  omega
structure BestOk (l : List (Int × Int)) (n : Nat) (ns : List Int) : Prop where
  next : ∀ (i : Nat) (a b : Int), ns[i]? = some a → ns[i + 1]? = some b → 1 ≤ a ∧ a < b ∧ b ≤ n ∧ lessM l a b = true ∧ ∀ j, a < j → j < b → lessM l a j = false
  last : ∀ w, ns.getLast? = some w → 1 ≤ w ∧ w ≤ n ∧ ∀ j : Int, 1 ≤ j → j ≤ n → lessM l w j = false
  head : 0 < n → ns[0]? = some 1
theorem bestL_ok {l : List (Int × Int)} (ok : OkA l) : ∀ n : Nat, BestOk l n (bestL l n)
  | 0 => ⟨fun i a b h => by simp [bestL] at h, fun w h => by simp [bestL] at h, fun h => by omega⟩
  | n + 1 => by
    have ih := bestL_ok ok n
    by_cases hc : bestL l n = [] ∨ (∃ p, (bestL l n).getLast? = some p ∧ lessM l p (n + 1 : Nat) = true)
    · have e : bestL l (n + 1) = bestL l n ++ [((n + 1 : Nat) : Int)] := if_pos hc
      rw [e]
      rcases hc with h0 | ⟨w, hw, hless⟩
      · rw [h0, List.nil_append]
        have n0 : n = 0 := Classical.byContradiction fun hn => by
          have := ih.head (by omega)
          rw [h0] at this
          cases this
        subst n0
        refine ⟨fun i a b h1 h2 => by simp at h2, fun w hw => ?_, fun _ => rfl⟩
        have : w = 1 := by simpa using hw.symm
        subst this
        refine ⟨by omega, by omega, fun j h1 h2 => ?_⟩
        have : j = 1 := by omega
        subst this
        exact lessM_self _ _
      · obtain ⟨w1, w2, w3⟩ := ih.last w hw
        refine ⟨fun i a b h1 h2 => ?_, fun v hv => ?_, fun _ => ?_⟩
        · by_cases hi : i + 1 < (bestL l n).length
          · rw [List.getElem?_append_left hi] at h2
            rw [List.getElem?_append_left (by omega)] at h1
            have := ih.next i a b h1 h2
            exact ⟨this.1, this.2.1, by omega, this.2.2.2⟩
          · have hi2 : i + 1 = (bestL l n).length := by
              have := (List.getElem?_eq_some_iff.mp h2).1
              rw [List.length_append] at this
              simp at this
              omega
            rw [List.getElem?_append_left (by omega)] at h1
            rw [List.getElem?_append_right (by omega), hi2, Nat.sub_self] at h2
            have hb : b = ((n + 1 : Nat) : Int) := by simpa using h2.symm
            have ha : a = w := by
              rw [List.getLast?_eq_getElem?, ← hi2, Nat.add_sub_cancel, h1] at hw
              exact Option.some.inj hw
            subst hb
            subst ha
            exact ⟨w1, by omega, by omega, hless, fun j h3 h4 => w3 j (by omega) (by omega)⟩
        · have : v = ((n + 1 : Nat) : Int) := by simpa using hv.symm
          subst this
          refine ⟨by omega, by omega, fun j h1 h2 => ?_⟩
          by_cases hj : j = ((n + 1 : Nat) : Int)
          · subst hj; exact lessM_self _ _
          · exact lessM_not ok (w3 j h1 (by omega)) hless
        · have hn : 0 < n := by omega
          have := ih.head hn
          rw [List.getElem?_append_left (by
            have := (List.getElem?_eq_some_iff.mp this).1
            exact this)]
          exact this
    · have e : bestL l (n + 1) = bestL l n := if_neg hc
      rw [e]
      have hne : bestL l n ≠ [] := fun h => hc (.inl h)
      have hn : 0 < n := by
        rcases Nat.eq_zero_or_pos n with h | h
        · subst h; exact absurd rfl hne
        · exact h
      refine ⟨fun i a b h1 h2 => ?_, fun w hw => ?_, fun _ => ih.head hn⟩
      · have := ih.next i a b h1 h2
        exact ⟨this.1, this.2.1, by omega, this.2.2.2⟩
      · obtain ⟨w1, w2, w3⟩ := ih.last w hw
        refine ⟨w1, by omega, fun j h1 h2 => ?_⟩
        by_cases hj : j = ((n + 1 : Nat) : Int)
        · subst hj
          cases h : lessM l w ((n + 1 : Nat) : Int)
          · rfl
          · exact absurd (.inr ⟨w, hw, h⟩) hc
        · exact w3 j h1 (by omega)
/-- the least number behind x that is better than x, where one is -/
theorem next_ex {l : List (Int × Int)} {x b : Int} (ok : OkA l) (h : x < b) (k : lessM l x b = true) (sb : Sz 1900 b) (hx : 1 ≤ x) : ∃ m, x < m ∧ m ≤ b ∧ NextIs l x (trD l m) := by
  have key : ∀ (d : Nat), (∃ m, x < m ∧ m ≤ b ∧ lessM l x m = true ∧ ∀ j, x < j → j < m → lessM l x j = false) ∨ ∀ j, x < j → j ≤ x + (d : Nat) → j ≤ b → lessM l x j = false := by
    intro d
    induction d with
    | zero => exact .inr fun j h1 h2 => by omega
    | succ d ih =>
      rcases ih with ih | ih
      · exact .inl ih
      · by_cases hb : x + ((d + 1 : Nat) : Int) ≤ b
        · cases hc : lessM l x (x + ((d + 1 : Nat) : Int))
          · refine .inr fun j h1 h2 h3 => ?_
            by_cases e : j = x + ((d + 1 : Nat) : Int)
            · subst e; exact hc
            · exact ih j h1 (by omega) h3
          · exact .inl ⟨_, by omega, hb, hc, fun j h1 h2 => ih j h1 (by omega) (by omega)⟩
        · exact .inr fun j h1 h2 h3 => ih j h1 (by omega) h3
  rcases key (b - x).toNat with ⟨m, h1, h2, h3, h4⟩ | h2
  · exact ⟨m, h1, h2, .inr ⟨m, lessM_pos ok h3, h1, h3, h4, sb.le (by omega), rfl⟩⟩
  · rw [h2 b h (by omega) (by omega)] at k
    cases k
def N_law_is_less : List Str := ["_law_one", "_law_other"]
def body_law_is_less : TS3 := (xRet (xD (x2 kLt (x2 kMul (x2 cIx (xView 0) (xC (.int 0))) (x2 cIx (xView 1) (xC (.int 1)))) (x2 kMul (x2 cIx (xView 1) (xC (.int 0))) (x2 cIx (xView 0) (xC (.int 1)))))))

def sp_law_is_less : Sp3 := fun ts Q _ => ∃ x y, ts = [.d (prI x), .d (prI y)] ∧ Sz 8000 x.1 ∧ Sz 8000 x.2 ∧ Sz 8000 y.1 ∧ Sz 8000 y.2 ∧ Q (.d (.bool (isMore y x))) ts
theorem v_law_is_less (ts Q E) (h : sp_law_is_less ts Q E) : body_law_is_less { nx := fun r => finOk ts r ∧ Q (.d .none) (finF ts r), rt := fun x r => finOk ts r ∧ Q x (finF ts r) } (start3 N_law_is_less ts) := by
  obtain ⟨x, y, rfl, h1, h2, h3, h4, q⟩ := h
  exact ⟨_, rfl, _, rfl, mulOk h1 h4 (by decide), _, rfl, _, rfl, mulOk h3 h2 (by decide), ⟨⟩, q⟩
def L1_law_next_right_1 : TS3 := (xFor (xZip (xView 2) (xFz (xSl (xView 2) (xSome (xC (.int 1))) xNo))) (xGTup 2 (xGCons (xGName 4) (xGCons (xGName 5) xGNil))) (xSeq (xIfS (xOr (xNot (xTest (xFz (xCall sp_law_is_less xNoE (xArg (x2 cIx (xView 5) (xC (.int 2))) (xArg (x2 cIx (xView 4) (xC (.int 2))) xANil)))))) (xTest (x2 kNe (xFz (xCall sp_next_through xNoE (xArg (xView 1) (xArg (x2 cIx (xView 4) (xC (.int 0))) xANil)))) (xView 5)))) (xRet (xD (xC (.bool false)))) xNext)
  (xSeq (xAsg (xD (x2 kAdd (x2 cIx (xView 4) (xC (.int 0))) (xFz (xCall sp_law_take xNoE (xIo 0 (xArg (x2 kSub (x2 cIx (xView 5) (xC (.int 0))) (x2 cIx (xView 4) (xC (.int 0)))) xANil)))))) (xGName 6))
  (xIfS (xTest (x2 kGt (x2 cIx (xFz (xCall sp_next_through xNoE (xArg (xView 1) (xArg (xView 6) xANil)))) (xC (.int 0))) (x2 cIx (xView 5) (xC (.int 0))))) (xRet (xD (xC (.bool false)))) xNext))))
def N_law_next_right_1 : List Str := ["_law_deck_here", "_law_asking_here", "_law_found", "_law_bound", "_law_one", "_law_other", "_law_between", "_law_far_here"]
def body_law_next_right_1 : TS3 := (xSeq L1_law_next_right_1
  (xSeq (xIfS (xTest (x2 kEqI (x2 cIx (x2 cIx (x2 cIx (xView 2) (xNeg (xC (.int 1)))) (xC (.int 2))) (xC (.int 0))) (xC (.int 0)))) (xRet (xD (x2 kIsN (xFz (xCall sp_next_through xNoE (xArg (xView 1) (xArg (x2 cIx (x2 cIx (xView 2) (xNeg (xC (.int 1)))) (xC (.int 0))) xANil)))) (xC .none)))) xNext)
  (xSeq (xAsg (xD (x2 kAdd (xC (.int 1)) (xFz (xCall sp_law_take xNoE (xIo 0 (xArg (xView 3) xANil)))))) (xGName 7))
  (xRet (xD (xNotV (xFz (xCall sp_law_is_less xNoE (xArg (x2 cIx (xFz (xCall sp_near_row xNoE (xArg (xView 1) (xArg (xView 7) xANil)))) (xC (.int 1))) (xArg (x2 cIx (x2 cIx (xView 2) (xNeg (xC (.int 1)))) (xC (.int 2))) xANil))))))))))

def bD (l : List (Int × Int)) (ns : List Int) : PyData := .list (ns.map fun q => trD l q)
def sp_law_next_right_1 : Sp3 := fun ts Q _ => ∃ m a dl l n, ts = [.own a dl, .d (asD l), .d (bD l (bestL l n)), .d (.int (n : Nat))] ∧ DeckOk (m + n + 1) dl ∧ l ≠ [] ∧ l.length ≤ 1000 ∧ OkA l ∧ 1 ≤ n ∧ n ≤ 100000 ∧ ∀ dl', DeckOk m dl' → Q (.d (.bool true)) [.own a dl', .d (asD l), .d (bD l (bestL l n)), .d (.int (n : Nat))]
theorem v_law_next_right_1 (ts Q E) (h : sp_law_next_right_1 ts Q E) : body_law_next_right_1 { nx := fun r => finOk ts r ∧ Q (.d .none) (finF ts r), rt := fun x r => finOk ts r ∧ Q x (finF ts r) } (start3 N_law_next_right_1 ts) := by
  obtain ⟨m, a, dl, l, n, rfl, hd, hl, hlen, ok, hn, hn2, q⟩ := h
  have bo := bestL_ok ok n
  have bl := bestL_len l n
  have hb : 100000 < sizeLine := by decide
  have szn : ∀ x : Int, 0 ≤ x → x ≤ 200000 → Sz 1900 x := fun x h0 h1 => by unfold Sz; exact Nat.lt_of_lt_of_le (show x.natAbs < 2 ^ 20 by omega) (Nat.pow_le_pow_right (by decide) (by decide))
  have mo : ∀ x : Int, Sz 8000 (missL l x).1 ∧ Sz 8000 (missL l x).2 := fun x => ⟨(missL_ok ok).2.2.1.mono (by decide), (missL_ok ok).2.2.2.mono (by decide)⟩
  have zi : ∀ (j : Nat) (x : PyData), (zipD ((bestL l n).map fun q => trD l q) (((bestL l n).map fun q => trD l q).drop 1))[j]? = some x → ∃ a b, (bestL l n)[j]? = some a ∧ (bestL l n)[j + 1]? = some b ∧ x = .tuple [trD l a, trD l b] := fun j x hx => by
    unfold zipD at hx
    rw [List.getElem?_zipWith, List.getElem?_drop, List.getElem?_map, List.getElem?_map, Nat.add_comm 1 j] at hx
    cases e1 : (bestL l n)[j]? with
    | none => rw [e1] at hx; cases hx
    | some u =>
      cases e2 : (bestL l n)[j + 1]? with
      | none => rw [e1, e2] at hx; cases hx
      | some v => rw [e1, e2] at hx; exact ⟨u, v, rfl, rfl, (Option.some.inj hx).symm⟩
  have cut : cutL ((bestL l n).map fun q => trD l q) (some 1) none = ((bestL l n).map fun q => trD l q).drop 1 := by
    have hne : 0 < ((bestL l n).map fun q => trD l q).length := by
      have := (List.getElem?_eq_some_iff.mp (bo.head hn)).1
      rw [List.length_map]; exact this
    unfold cutL
    rw [HT.sIx_none, show HT.sIx _ 0 (some (1 : Int)) = min 1 ((bestL l n).map fun q => trD l q).length from HT.sIx_nat _ 0 1, Nat.min_eq_left hne]
    rw [List.take_of_length_le (by rw [List.length_drop]; exact Nat.le_refl _)]
  obtain ⟨w, hw⟩ : ∃ w, (bestL l n).getLast? = some w := by
    have h0 := bo.head hn
    cases e : bestL l n with
    | nil => rw [e] at h0; cases h0
    | cons x r => exact ⟨_, List.getLast?_eq_getLast (by simp)⟩
  obtain ⟨w1, w2, w3⟩ := bo.last w hw
  have gw : getI ((bestL l n).map fun q => trD l q) (-1) = some (trD l w) := getI_last (by rw [List.getLast?_map, hw]; rfl)
  refine fun p => ⟨nvs_d _, fun i r => ∃ dl' b c d, r = [some (.own a dl'), some (.d (asD l)), some (.d (bD l (bestL l n))), some (.d (.int (n : Nat))), b, c, d, none] ∧ DeckOk (m + 1 + (n - i)) dl' ∧ i ≤ n, ⟨dl, _, _, _, rfl, hd.mono (by omega), by omega⟩, fun i x r hx hW => ?_, fun r hW => ?_⟩
  · obtain ⟨dl', b, c, d, rfl, hd', hi⟩ := hW
    rw [cut, fzs_d] at hx
    obtain ⟨u, v, hu, hv, rfl⟩ := zi _ _ hx
    obtain ⟨u1, uv, vn, hless, hno⟩ := bo.next i u v hu hv
    have hi1 : i + 1 < (bestL l n).length := (List.getElem?_eq_some_iff.mp hv).1
    have su := szn u (by omega) (by omega)
    have sv := szn v (by omega) (by omega)
    have e1 : m + 1 + (n - i) = m + 1 + (n - (i + 1)) + 1 := by omega
    have nx : NextIs l u (trD l v) := .inr ⟨v, lessM_pos ok hless, uv, hless, hno, sv, rfl⟩
    have sh := nest_shaped (nest_tr (n := 1) (l := l) (q := v) hlen) (by decide)
    refine ⟨rfl, _, rfl, _, rfl, nd0, _, _, rfl, (mo v).1, (mo v).2, (mo u).1, (mo u).2, fun hc => ?_, fun hc => ?_⟩
    · have h3 : (!lessM l u v) = true := hc
      rw [hless] at h3; cases h3
    · refine ⟨_, rfl, nd0, l, u, trD l v, rfl, hl, hlen, ok, u1, su, nx, sh, sh, fun hc => ?_, fun hc => ?_⟩
      · have h3 : (!PyData.eqv (trD l v) (trD l v)) = true := hc
        rw [eqv_self (nest_tr (n := 1) hlen)] at h3; cases h3
      · rw [e1] at hd'
        refine ⟨_, rfl, _, rfl, _, rfl, nd1, _, a, dl', v - u, rfl, hd', by omega, by omega, fun x dl2 hx0 hx1 hd2 => ?_⟩
        have hx2 : lessM l (u + x) v = true := by
          by_cases e : x = 0
          · rw [e, Int.add_zero]; exact hless
          · exact lessM_flip ok (hno (u + x) (by omega) (by omega)) hless
        obtain ⟨k, k1, k2, k3⟩ := next_ex (x := u + x) (b := v) ok (by omega) hx2 sv (by omega)
        refine ⟨nd0, l, u + x, _, rfl, hl, hlen, ok, by omega, szn _ (by omega) (by omega), k3, _, rfl, _, rfl, fun hc => ?_, fun hc => ?_⟩
        · have := dT hc
          omega
        · exact ⟨dl2, _, _, _, rfl, hd2, by omega⟩
  · obtain ⟨dl', b, c, d, rfl, hd', hi⟩ := hW
    refine ⟨_, gw, _, rfl, _, rfl, fun hc => ?_, fun hc => ?_⟩
    · refine ⟨_, gw, _, rfl, nd0, l, w, .none, rfl, hl, hlen, ok, w1, szn _ (by omega) (by omega), .inl ⟨of_decide_eq_true hc, rfl⟩, ⟨⟩, ⟨rfl, ⟨⟩⟩, q dl' (hd'.mono (by omega))⟩
    · refine ⟨nd1, m, a, dl', n, rfl, hd'.mono (by omega), by omega, by omega, fun x dl2 hx0 hx1 hd2 => ?_⟩
      refine ⟨nd0, l, 1 + x, rfl, hl, hlen, ok, by omega, (szn _ (by omega) (by omega)).mono (by decide), _, rfl, _, gw, _, rfl, nd0, _, _, rfl, (mo _).1, (mo _).2, (mo _).1, (mo _).2, ?_⟩
      have h1 : isMore (missL l w) (missL l (1 + x)) = false := w3 (1 + x) (by omega) (by omega)
      rw [h1]
      exact ⟨⟨rfl, ⟨⟩⟩, q dl2 hd2⟩
end L3
namespace L3
open PySem PySem.Spec PyProof.Rows L2
local macro_rules | `(tactic| wtm_at "sh") => `(tactic| conv => whnf)
theorem fz_bT (l : List (Int × Int)) (p : Addr) (ns : List Int) : fz (bT l p ns) = bD l ns := by
  show PyData.list (fzs (ns.map fun q => T.d (trD l q))) = _
  rw [fzs_map]
  rfl
theorem nest_bD {n : Nat} {l : List (Int × Int)} {ns : List Int} (h : l.length ≤ 1000) (k : ns.length < sizeLine) : Nest (n + 4) (bD l ns) := by
  refine ⟨by rw [List.length_map]; exact k, fun x hx => ?_⟩
  obtain ⟨z, _, rfl⟩ := List.mem_map.mp hx
  exact nest_tr h
def R1_law_8 : TS3 := (xSeq (xAsg (xD (x2 cIx (xFz (xLst (xCons (xD (x2 kAdd (xC (.int 1)) (xFz (xCall sp_law_take xNoE (xIo 1 (xArg (xC (.int 2000)) xANil)))))) (xCons (xD (x2 kAdd (xC (.int 1)) (xFz (xCall sp_law_take xNoE (xIo 1 (xArg (xC (.int 100)) xANil)))))) xNil)))) (xFz (xCall sp_law_take xNoE (xIo 1 (xArg (xC (.int 2)) xANil)))))) (xGName 4))
  (xSeq (xAsg (xCall sp_best_to xNoE (xArg (xView 3) (xArg (xView 4) xANil))) (xGName 5))
  (xFzS 5 (xSeq (xAsg (xLc (xSeqI (xView 5)) (xGName 8) (xTest (x2 kNe (xFz (xCall sp_near_row xNoE (xArg (xView 3) (xArg (x2 cIx (xView 8) (xC (.int 0))) xANil)))) (xFz (xSl (xView 8) (xSome (xC (.int 1))) xNo)))) (xMove 8) [8]) (xGName 6))
  (xSeq (xIfS (xOr (xTest (x2 kNeI (x2 cIx (x2 cIx (xView 5) (xC (.int 0))) (xC (.int 0))) (xC (.int 1)))) (xTest (x2 kNe (xView 6) (xFz (xLst xNil))))) (xRet (xD (xC (.bool false)))) xNext)
  (xSeq (xAsg (xD (x2 kAdd (xC (.int 1)) (xFz (xCall sp_law_take xNoE (xIo 1 (xArg (xView 4) xANil)))))) (xGName 7))
  (xSeq (xIfS (xTest (x2 kNe (xFz (xCall sp_best_to xNoE (xArg (xView 3) (xArg (xView 7) xANil)))) (xFz (xLc (xSeqI (xView 5)) (xGName 8) (xTest (x2 kLe (x2 cIx (xView 8) (xC (.int 0))) (xView 7))) (xMove 8) [8])))) (xRet (xD (xC (.bool false)))) xNext)
  (xIfS (xNot (xTest (xFz (xCall sp_law_next_right_1 xNoE (xIo 1 (xArg (xView 3) (xArg (xView 5) (xArg (xView 4) xANil)))))))) (xRet (xD (xC (.bool false)))) xNext))))))))
def L2_law_8 : TS3 := (xFor (xR1 (xC (.int 5))) (xGName 2) (xSeq (xAsg (xCall sp_law_asking_1 xNoE (xIo 1 xANil)) (xGName 3))
  (xSeq (xIfS (xTest (x2 kEqI (xFz (xCall sp_law_take xNoE (xIo 1 (xArg (xC (.int 2)) xANil)))) (xC (.int 0)))) (xAsg (xD (x1 cTup (xFz (xLc (xSeqI (xView 3)) (xGTup 2 (xGCons (xGName 9) (xGCons (xGName 10) xGNil))) xYes (xTup (xCons (xMove 9) (xCons (xD (x2 kAdd (xC (.int 1)) (x2 kMod (xView 10) (xC (.int 40))))) xNil))) [9, 10])))) (xGName 3)) xNext)
  R1_law_8)))
def N_law_8 : List Str := ["_law_script", "_law_deck_here", "_law_turn", "_law_asking_here", "_law_bound", "_law_found", "_law_strange", "_law_lesser", "_law_one", "_law_above", "_law_below_here"]
def body_law_8 : TS3 := (xSeq (xAsg (xCall sp_law_deck xNoE (xArg (xView 0) xANil)) (xGName 1))
  (xSeq L2_law_8
  (xRet (xD (xC (.bool true))))))

theorem v_R1_law_8 {D : Ends3} {a dk : Addr} {ns : List Int} {l : List T} {n : Nat} {p : List (Int × Int)} {t b c d e : Option T} (hd : DeckOk (n + 6000) l) (ok : OkA p) (hne : p ≠ []) (hlen : p.length ≤ 3)
    (q : ∀ l' b c d e, DeckOk n l' → D.nx [some (.sc a ns), some (.own dk l'), t, some (.d (asD p)), b, c, d, e, none, none, none]) :
    R1_law_8 D [some (.sc a ns), some (.own dk l), t, some (.d (asD p)), b, c, d, e, none, none, none] := by
  have hb : 100000 < sizeLine := by decide
  have okl : p.length ≤ 1000 := by omega
  refine ⟨nd1, n + 5999, dk, l, _, rfl, hd, by decide, by decide, fun x1 l1 h10 h11 hd1 => ⟨nd1, n + 5998, dk, l1, _, rfl, hd1, by decide, by decide, fun x2 l2 h20 h21 hd2 => ⟨sz 2, fun pl => ⟨rfl, nd1, n + 5997, dk, l2, _, rfl, hd2, by decide, by decide, fun x3 l3 h30 h31 hd3 => ?_⟩⟩⟩⟩
  obtain ⟨y, gy, _, my⟩ := getI_of (l := [PyData.int (1 + x1), .int (1 + x2)]) (i := x3) h30 (by simpa using h31)
  obtain ⟨k, rfl, hk1, hk2⟩ : ∃ k : Nat, y = .int (k : Nat) ∧ 1 ≤ k ∧ k ≤ 2000 := by
    simp only [List.mem_cons, List.not_mem_nil, or_false] at my
    rcases my with rfl | rfl
    · exact ⟨(1 + x1).toNat, by rw [Int.toNat_of_nonneg (by omega)], by omega, by omega⟩
    · exact ⟨(1 + x2).toNat, by rw [Int.toNat_of_nonneg (by omega)], by omega, by omega⟩
  have bo := bestL_ok ok k
  have bl := bestL_len p k
  refine ⟨_, gy, nd0, p, k, rfl, hne, okl, ok, hk1, by omega, fun pf => ⟨nvs_map _ _, ?_⟩⟩
  rw [fz_bT]
  refine fun ps => ⟨fun j acc r => r = [some (.sc a ns), some (.own dk l3), t, some (.d (asD p)), some (.d (.int (k : Nat))), some (.d (bD p (bestL p k))), d, e, none, none, none] ∧ acc = [], ⟨rfl, rfl⟩, fun j x acc r hx hW => ?_, fun acc r hW => ?_⟩
  · obtain ⟨rfl, rfl⟩ := hW
    obtain ⟨y, hy, rfl⟩ : ∃ y, (bestL p k)[j]? = some y ∧ x = trD p y := by
      rw [List.getElem?_map] at hx
      cases e : (bestL p k)[j]? with
      | none => rw [e] at hx; cases hx
      | some q => rw [e] at hx; exact ⟨q, rfl, (Option.some.inj hx).symm⟩
    obtain ⟨y1, y2⟩ := bestL_mem (List.mem_of_getElem? hy)
    have sy : Sz 2000 y := by unfold Sz; exact Nat.lt_of_lt_of_le (show y.natAbs < 2 ^ 20 by omega) (Nat.pow_le_pow_right (by decide) (by decide))
    have sn : SeqAt.shaped (nrD p y) = true := nest_shaped (nest_nr p y okl) (by decide)
    refine ⟨_, rfl, nd0, p, y, rfl, hne, okl, ok, y1, sy, sn, sn, fun hc => ?_, fun hc => ⟨rfl, rfl⟩⟩
    have h3 : (!PyData.eqv (nrD p y) (nrD p y)) = true := hc
    rw [eqv_self (nest_nr p y okl)] at h3; cases h3
  · obtain ⟨rfl, rfl⟩ := hW
    have g0 : getI ((bestL p k).map fun q => trD p q) 0 = some (trD p 1) := by
      have h0 := bo.head hk1
      show ((bestL p k).map fun q => trD p q)[0]? = _
      rw [List.getElem?_map, h0]
      rfl
    refine ⟨_, g0, _, rfl, nofun, fun _ => ⟨sz 0, fun p2 => ⟨rfl, rfl, rfl, shp_nilL, shp_nilL, nofun, fun _ => ?_⟩⟩⟩
    refine ⟨nd1, n + 5000, dk, l3, k, rfl, hd3.mono (by omega), by omega, by omega, fun x4 l4 h40 h41 hd4 => ?_⟩
    obtain ⟨b2, eb, hb1, hb2⟩ : ∃ b2 : Nat, (1 + x4 : Int) = (b2 : Nat) ∧ 1 ≤ b2 ∧ b2 ≤ k := ⟨(1 + x4).toNat, by rw [Int.toNat_of_nonneg (by omega)], by omega, by omega⟩
    have bl2 := bestL_len p b2
    refine ⟨nd0, p, b2, by rw [← eb], hne, okl, ok, hb1, by omega, fun pb => ⟨nvs_map _ _, fun pc => ⟨fun j acc r => r = [some (.sc a ns), some (.own dk l4), t, some (.d (asD p)), some (.d (.int (k : Nat))), some (.d (bD p (bestL p k))), some (.own ps []), some (.d (.int (1 + x4))), none, none, none] ∧ acc = (((bestL p k).take j).filter (fun q => decide (q ≤ 1 + x4))).map (fun q => T.d (trD p q)), ⟨rfl, rfl⟩, fun j x acc r hx hW => ?_, fun acc r hW => ?_⟩⟩⟩
    · obtain ⟨rfl, rfl⟩ := hW
      obtain ⟨y, hy, rfl⟩ : ∃ y, (bestL p k)[j]? = some y ∧ x = trD p y := by
        rw [List.getElem?_map] at hx
        cases e : (bestL p k)[j]? with
        | none => rw [e] at hx; cases hx
        | some q => rw [e] at hx; exact ⟨q, rfl, (Option.some.inj hx).symm⟩
      have el : (((bestL p k).take j).filter (fun q => decide (q ≤ 1 + x4))).length ≤ (bestL p k).length := Nat.le_trans (List.length_filter_le ..) (by rw [List.length_take]; omega)
      refine ⟨_, rfl, fun hc => ⟨by rw [List.length_map]; omega, rfl, ?_⟩, fun hc => ⟨rfl, ?_⟩⟩
      · rw [take_succ hy, List.filter_append, List.map_append]
        have : decide (y ≤ 1 + x4) = true := hc
        rw [List.filter_cons, if_pos this]
        rfl
      · rw [take_succ hy, List.filter_append, List.map_append]
        have : ¬ decide (y ≤ 1 + x4) = true := by rw [show decide (y ≤ 1 + x4) = false from hc]; decide
        rw [List.filter_cons, if_neg this]
        simp
    · obtain ⟨rfl, hacc⟩ := hW
      rw [List.length_map, List.take_length, eb, bestL_cut hb2] at hacc
      subst hacc
      refine ⟨nvs_map _ _, ?_⟩
      have n1 : Nest 4 (bD p (bestL p b2)) := nest_bD (n := 0) okl (by omega)
      have s1 := nest_shaped n1 (by decide)
      have e1 := fz_bT p pb (bestL p b2)
      have e3 := fz_bT p pc (bestL p b2)
      rw [e1, e3]
      refine ⟨s1, s1, fun hc => ?_, fun hc => ?_⟩
      · have h3 : (!PyData.eqv (bD p (bestL p b2)) (bD p (bestL p b2))) = true := hc
        rw [eqv_self n1] at h3; cases h3
      · refine ⟨nd1, n, dk, l4, p, k, rfl, hd4.mono (by omega), hne, okl, ok, hk1, by omega, fun dl' hd5 => ⟨nofun, fun _ => q _ _ _ _ _ hd5⟩⟩
theorem v_law_8 (ts Q E) (h : spLaw ts Q E) : body_law_8 { nx := fun r => finOk ts r ∧ Q (.d .none) (finF ts r), rt := fun x r => finOk ts r ∧ Q x (finF ts r) } (start3 N_law_8 ts) := by
  obtain ⟨a, ns, rfl, hl, q⟩ := h
  refine ⟨nd0, a, ns, rfl, hl, fun dk l0 hd0 => ?_⟩
  refine ⟨by decide, by decide, fun i r => ∃ l b c d e f g, r = [some (.sc a ns), some (.own dk l), b, c, d, e, f, g, none, none, none] ∧ i ≤ 5 ∧ DeckOk (10000 + (5 - i) * 10000) l, ⟨l0, _, _, _, _, _, _, rfl, by decide, hd0.mono (by decide)⟩, fun i x r hx hW => ?_, fun r hW => ?_⟩
  · obtain ⟨l, b, c, d, e, f, g, rfl, hi, hd⟩ := hW
    obtain ⟨hi4, rfl⟩ := rangeI_get hx
    have hi4' : i < 5 := hi4
    refine ⟨nd1, 10000 + (4 - i) * 10000 + 9000, dk, l, rfl, hd.mono (by omega), fun p l1 hp hd1 => ?_⟩
    obtain ⟨hne, hlen, hfr⟩ := hp
    have ok : OkA p := FrOk.ok hfr
    refine ⟨nd1, 10000 + (4 - i) * 10000 + 8999, dk, l1, _, rfl, hd1.mono (by omega), by decide, by decide, fun x1 l2 h10 h11 hd2 => ⟨fun hc => ?_, fun hc => v_R1_law_8 (n := 10000 + (4 - i) * 10000) (hd2.mono (by omega)) ok hne hlen fun l' b c d e hd' => ⟨l', _, _, _, _, _, _, rfl, by omega, hd'.mono (by omega)⟩⟩⟩
    refine fun pl => ⟨fun j acc r => r = [some (.sc a ns), some (.own dk l2), some (.d (.int (0 + (i : Nat)))), some (.d (asD p)), d, e, f, g, none, none, none] ∧ acc = (p.take j).map (fun z => T.d (prI (z.1, 1 + z.2 % 40))), ⟨rfl, rfl⟩, fun j x acc r hx hW => ?_, fun acc r hW => ?_⟩
    · obtain ⟨rfl, rfl⟩ := hW
      obtain ⟨z, hz, rfl, hm⟩ := get_map hx
      have hb : 100000 < sizeLine := by decide
      exact ⟨rfl, fun _ => ⟨(show (0 : Int) < 40 by decide), sz 2, by rw [List.length_map, List.length_take]; omega, rfl, by rw [take_succ hz, List.map_append]; rfl⟩, nofun⟩
    · obtain ⟨rfl, hacc⟩ := hW
      rw [List.length_map, List.take_length] at hacc
      subst hacc
      refine ⟨nvs_map _ _, ?_⟩
      have e1 : fz (T.own pl (p.map fun z => T.d (prI (z.1, 1 + z.2 % 40)))) = .list ((p.map fun z => (z.1, 1 + z.2 % 40)).map prI) := by
        show PyData.list (fzs (p.map fun z => T.d (prI (z.1, 1 + z.2 % 40)))) = _
        rw [fzs_map, List.map_map]
        rfl
      rw [e1]
      have ok2 : OkA (p.map fun z => (z.1, 1 + z.2 % 40)) := FrOk.ok fun y hy => by
        obtain ⟨z, hz, rfl⟩ := List.mem_map.mp hy
        have h1 := hfr z hz
        have h2 := Int.emod_nonneg z.2 (show (40 : Int) ≠ 0 by decide)
        have h3 := Int.emod_lt_of_pos z.2 (show (0 : Int) < 40 by decide)
        exact ⟨by show 0 < 1 + z.2 % 40; omega, by show 1 + z.2 % 40 ≤ _; omega, h1.2.2.1, h1.2.2.2⟩
      exact v_R1_law_8 (n := 10000 + (4 - i) * 10000) (hd2.mono (by omega)) ok2 (by simpa using hne) (by simpa using hlen) fun l' b c d e hd' => ⟨l', _, _, _, _, _, _, rfl, by omega, hd'.mono (by omega)⟩
  · obtain ⟨l, b, c, d, e, f, g, rfl, hi, hd⟩ := hW
    exact ⟨⟨⟩, q _⟩
end L3
namespace L3
open PySem PySem.Spec PyProof.Rows L2
local macro_rules | `(tactic| wtm_at "sh") => `(tactic| conv => whnf)
/-! ## one fraction: how far off -/
def dst (a b q : Int) : Int := if 2 * (q * a % b) ≤ b then q * a % b else b - q * a % b
theorem dst_le {a b q : Int} (t : Int) (hb : 0 < b) : dst a b q ≤ (q * a - t * b).natAbs := by
  have h1 := Int.emod_nonneg (q * a) (show b ≠ 0 by omega)
  have h2 := Int.emod_lt_of_pos (q * a) hb
  have h3 : q * a = b * (q * a / b) + q * a % b := (Int.mul_ediv_add_emod (q * a) b).symm
  unfold dst
  generalize q * a % b = r at *
  generalize q * a / b = f at *
  have h4 : q * a - t * b = (f - t) * b + r := by rw [h3]; grind
  rw [h4]
  generalize f - t = x at *
  rcases Int.lt_trichotomy x 0 with h | h | h
  · have : x * b ≤ (-1) * b := Int.mul_le_mul_of_nonneg_right (by omega) (by omega)
    split <;> omega
  · subst h
    rw [Int.zero_mul]
    split <;> omega
  · have : 1 * b ≤ x * b := Int.mul_le_mul_of_nonneg_right (by omega) (by omega)
    split <;> omega
theorem dst_at (a b q : Int) (hb : 0 < b) : ∃ t, dst a b q = (q * a - t * b).natAbs := by
  have h1 := Int.emod_nonneg (q * a) (show b ≠ 0 by omega)
  have h2 := Int.emod_lt_of_pos (q * a) hb
  have h3 : q * a = b * (q * a / b) + q * a % b := (Int.mul_ediv_add_emod (q * a) b).symm
  unfold dst
  generalize q * a % b = r at *
  generalize q * a / b = f at *
  split
  · exact ⟨f, by
      have : q * a - f * b = r := by rw [h3]; grind
      rw [this]; omega⟩
  · exact ⟨f + 1, by
      have : q * a - (f + 1) * b = r - b := by rw [h3]; grind
      rw [this]; omega⟩
theorem dst_nonneg (a b q : Int) (hb : 0 < b) : 0 ≤ dst a b q := by
  obtain ⟨t, e⟩ := dst_at a b q hb
  omega
/-- the miss of one fraction is its distance -/
theorem missL_one {A B : Int} (hB : 0 < B) (q : Int) : (missL [(A, B)] q).1 * (inL A B).2 = dst (inL A B).1 (inL A B).2 q * (missL [(A, B)] q).2 := by
  have hg : 0 < (Int.gcd A B : Int) := by
    have : Int.gcd A B ≠ 0 := fun e => by rw [Int.gcd_eq_zero_iff] at e; omega
    omega
  have eA : A = Int.gcd A B * (inL A B).1 := (Int.mul_ediv_cancel' (Int.gcd_dvd_left ..)).symm
  have eB : B = Int.gcd A B * (inL A B).2 := (Int.mul_ediv_cancel' (Int.gcd_dvd_right ..)).symm
  have hb : 0 < (inL A B).2 := by
    rcases Int.lt_or_le 0 (inL A B).2 with h | h
    · exact h
    · have := Int.mul_nonpos_of_nonneg_of_nonpos (Int.le_of_lt hg) h
      omega
  have en : (near (q * A) B).2 = Int.gcd A B * dst (inL A B).1 (inL A B).2 q := by
    generalize (inL A B).1 = a at *
    generalize (inL A B).2 = b at *
    generalize (Int.gcd A B : Int) = g at *
    subst eA
    subst eB
    have h1 := Int.emod_nonneg (q * a) (show b ≠ 0 by omega)
    have h2 := Int.emod_lt_of_pos (q * a) hb
    have e1 : q * (g * a) - q * (g * a) / (g * b) * (g * b) = g * (q * a % b) := by
      have e2 : q * (g * a) = g * (q * a) := by grind
      rw [e2, ← Int.mul_emod_mul_of_pos _ _ hg]
      have := Int.mul_ediv_add_emod (g * (q * a)) (g * b)
      rw [Int.mul_comm (g * b)] at this
      omega
    unfold near dst
    rw [e1]
    by_cases c : 2 * (q * a % b) ≤ b
    · have c2 : 2 * (g * (q * a % b)) ≤ g * b := by
        have := Int.mul_le_mul_of_nonneg_left c (Int.le_of_lt hg)
        have e : g * (2 * (q * a % b)) = 2 * (g * (q * a % b)) := by grind
        omega
      rw [if_pos c, if_pos c2]
    · have c2 : ¬ 2 * (g * (q * a % b)) ≤ g * b := by
        have := Int.mul_lt_mul_of_pos_left (show b < 2 * (q * a % b) by omega) hg
        have e : g * (2 * (q * a % b)) = 2 * (g * (q * a % b)) := by grind
        omega
      rw [if_neg c, if_neg c2]
      show g * b - g * (q * a % b) = g * (b - q * a % b)
      grind
  have em : missF [(A, B)] q = if 0 < (near (q * A) B).2 then ((near (q * A) B).2, B) else (0, 1) := by
    show missS q (0, 1) (A, B) = _
    unfold missS isMore
    by_cases c : 0 < (near (q * A) B).2
    · rw [if_pos c, if_pos (decide_eq_true (by show (0 : Int) * B < (near (q * A) B).2 * 1; omega))]
    · rw [if_neg c, if_neg (by rw [decide_eq_true_eq]; show ¬ (0 : Int) * B < (near (q * A) B).2 * 1; omega)]
  have cross : ∀ x y : Int, 0 < y → (inL x y).1 * y = x * (inL x y).2 := fun x y hy => by
    have d1 : x = Int.gcd x y * (inL x y).1 := (Int.mul_ediv_cancel' (Int.gcd_dvd_left ..)).symm
    have d2 : y = Int.gcd x y * (inL x y).2 := (Int.mul_ediv_cancel' (Int.gcd_dvd_right ..)).symm
    generalize (inL x y).1 = u at *
    generalize (inL x y).2 = v at *
    generalize (Int.gcd x y : Int) = h at *
    rw [d1, d2]
    grind
  unfold missL
  rw [em]
  by_cases c : 0 < (near (q * A) B).2
  · rw [if_pos c]
    have e1 := cross (near (q * A) B).2 B hB
    generalize (inL (near (q * A) B).2 B).1 = u at *
    generalize (inL (near (q * A) B).2 B).2 = v at *
    rw [en] at e1
    generalize dst (inL A B).1 (inL A B).2 q = d at *
    generalize (inL A B).2 = b at *
    generalize (Int.gcd A B : Int) = g at *
    have e2 : g * (u * b) = g * (d * v) := by
      rw [eB] at e1
      grind
    exact Int.eq_of_mul_eq_mul_left (by omega) e2
  · rw [if_neg c]
    have z : dst (inL A B).1 (inL A B).2 q = 0 := by
      have h0 := dst_nonneg (inL A B).1 (inL A B).2 q hb
      rcases Int.lt_or_le 0 (dst (inL A B).1 (inL A B).2 q) with h | h
      · have := Int.mul_pos hg h
        omega
      · omega
    rw [z]
    have : inL 0 1 = (0, 1) := by decide
    rw [this]
    omega
theorem inL_pos {A B : Int} (hB : 0 < B) : 0 < (inL A B).2 ∧ (inL A B).2 ≤ B := by
  have hg : 0 < (Int.gcd A B : Int) := by
    have : Int.gcd A B ≠ 0 := fun e => by rw [Int.gcd_eq_zero_iff] at e; omega
    omega
  have hd : (Int.gcd A B : Int) ≤ B := Int.le_of_dvd hB (Int.gcd_dvd_right ..)
  have h1 : 1 ≤ B / (Int.gcd A B : Int) := Int.le_ediv_of_mul_le hg (by omega)
  exact ⟨show 0 < B / (Int.gcd A B : Int) by omega, Int.ediv_le_self _ (by omega)⟩
theorem lessM_one {A B : Int} (hB : 0 < B) (ok : OkA [(A, B)]) (p q : Int) : lessM [(A, B)] p q = decide (dst (inL A B).1 (inL A B).2 q < dst (inL A B).1 (inL A B).2 p) := by
  have hb := (inL_pos (A := A) hB).1
  have e1 := missL_one (A := A) hB p
  have e2 := missL_one (A := A) hB q
  have p1 := (missL_ok (q := p) ok).2.1
  have p2 := (missL_ok (q := q) ok).2.1
  unfold lessM isMore
  generalize (missL [(A, B)] p).1 = x1 at *
  generalize (missL [(A, B)] p).2 = x2 at *
  generalize (missL [(A, B)] q).1 = y1 at *
  generalize (missL [(A, B)] q).2 = y2 at *
  generalize dst (inL A B).1 (inL A B).2 p = dp at *
  generalize dst (inL A B).1 (inL A B).2 q = dq at *
  generalize (inL A B).2 = b at *
  have f1 : y1 * x2 * b = dq * (x2 * y2) := by
    have : y1 * x2 * b = (y1 * b) * x2 := by grind
    rw [this, e2]; grind
  have f2 : x1 * y2 * b = dp * (x2 * y2) := by
    have : x1 * y2 * b = (x1 * b) * y2 := by grind
    rw [this, e1]; grind
  have hp : 0 < x2 * y2 := Int.mul_pos p1 p2
  have iff1 : y1 * x2 < x1 * y2 ↔ dq < dp := by
    constructor
    · intro h
      have := Int.mul_lt_mul_of_pos_right h hb
      rw [f1, f2] at this
      exact Int.lt_of_mul_lt_mul_right this (by omega)
    · intro h
      have := Int.mul_lt_mul_of_pos_right h hp
      rw [← f1, ← f2] at this
      exact Int.lt_of_mul_lt_mul_right this (by omega)
  exact decide_eq_decide.mpr iff1
/-! ## the steps -/
structure Cf (a b h n be re : Int) : Prop where
  ex : ∃ s p0 p1 : Int, (s = 1 ∨ s = -1) ∧ n * a - p1 * b = s * re ∧ h * a - p0 * b = -s * be ∧ (h = 0 → s = 1) ∧ (1 ≤ h → s = 1 → 2 * be < b)
  sum : n * be + h * re = b
  h0 : 0 ≤ h
  hn : h ≤ n
  n1 : 1 ≤ n
  r0 : 0 ≤ re
  rb : re < be
  z : h = 0 → n = 1
theorem Cf.start {a b : Int} (hb : 0 < b) : Cf a b 0 1 b (a % b) := by
  have h3 := Int.mul_ediv_add_emod a b
  exact ⟨⟨1, 1, a / b, .inl rfl, by rw [Int.mul_comm (a / b)]; omega, by omega, fun _ => rfl, fun h => absurd h (by decide)⟩, by omega, by decide, by decide, by decide, Int.emod_nonneg _ (by omega), Int.emod_lt_of_pos _ hb, fun _ => rfl⟩
theorem Cf.step {a b h n be re : Int} (c : Cf a b h n be re) (hr : 0 < re) : Cf a b n (be / re * n + h) re (be % re) := by
  obtain ⟨⟨s, p0, p1, hs, e1, e2, z1, z2⟩, sum, h0, hn, n1, r0, rb, z⟩ := c
  have d1 := Int.mul_ediv_add_emod be re
  have q1 : 1 ≤ be / re := Int.le_ediv_of_mul_le hr (by omega)
  have m0 := Int.emod_nonneg be (show re ≠ 0 by omega)
  have m1 := Int.emod_lt_of_pos be hr
  generalize be / re = k at *
  generalize be % re = m at *
  have kn : n ≤ k * n := by
    have := Int.mul_le_mul_of_nonneg_right q1 (show 0 ≤ n by omega)
    omega
  refine ⟨⟨-s, p1, k * p1 + p0, by omega, ?_, by rw [e1]; grind, fun e => by omega, fun _ e => ?_⟩, ?_, by omega, by omega, by omega, m0, m1, fun e => by omega⟩
  · have : (k * n + h) * a - (k * p1 + p0) * b = k * (n * a - p1 * b) + (h * a - p0 * b) := by grind
    rw [this, e1, e2, ← d1]
    grind
  · have h1 : 1 ≤ h := by
      rcases Int.lt_or_le 0 h with h | h
      · omega
      · have := z1 (by omega)
        omega
    have h2 : be ≤ n * be := by
      have := Int.mul_le_mul_of_nonneg_right n1 (show 0 ≤ be by omega)
      omega
    have h3 : re ≤ h * re := by
      have := Int.mul_le_mul_of_nonneg_right h1 r0
      omega
    omega
  · rw [← sum, ← d1]
    grind
theorem Cf.det {a b h n be re s p0 p1 : Int} (hb : 0 < b) (e1 : n * a - p1 * b = s * re) (e2 : h * a - p0 * b = -s * be) (sum : n * be + h * re = b) : n * p0 - h * p1 = s := by
  have : (n * p0 - h * p1) * b = s * b := by
    have e3 : (n * p0 - h * p1) * b = s * (n * be + h * re) := by grind
    rw [e3, sum]
  exact Int.eq_of_mul_eq_mul_right (by omega) this
/-- nothing ahead of n is nearer than what is left -/
theorem Cf.far {a b h n be re : Int} (hb : 0 < b) (c : Cf a b h n be re) (hh : 1 ≤ h) {j : Int} (j0 : 0 < j) (jn : j < n) : be ≤ dst a b j := by
  obtain ⟨⟨s, p0, p1, hs, e1, e2, _, _⟩, sum, h0, hn, n1, r0, rb, z⟩ := c
  have dt := Cf.det hb e1 e2 sum
  obtain ⟨t, et⟩ := dst_at a b j hb
  rw [et]
  have ss : s * s = 1 := by rcases hs with rfl | rfl <;> rfl
  -- j = x h + y n, t = x p0 + y p1
  obtain ⟨x, hx⟩ : ∃ x, x = -s * (j * p1 - t * n) := ⟨_, rfl⟩
  obtain ⟨y, hy⟩ : ∃ y, y = -s * (h * t - p0 * j) := ⟨_, rfl⟩
  have ej : j = x * h + y * n := by
    have : x * h + y * n = s * (n * p0 - h * p1) * j := by rw [hx, hy]; grind
    rw [this, dt, ss]; omega
  have et2 : t = x * p0 + y * p1 := by
    have : x * p0 + y * p1 = s * (n * p0 - h * p1) * t := by rw [hx, hy]; grind
    rw [this, dt, ss]; omega
  have ev : j * a - t * b = -s * (x * be - y * re) := by
    have : j * a - t * b = x * (h * a - p0 * b) + y * (n * a - p1 * b) := by
      rw [ej, et2]; grind
    rw [this, e1, e2]; grind
  have eabs : (j * a - t * b).natAbs = (x * be - y * re).natAbs := by
    rw [ev, Int.natAbs_mul]
    have : (-s).natAbs = 1 := by rcases hs with rfl | rfl <;> rfl
    rw [this, Nat.one_mul]
  rw [eabs]
  clear hx hy ev eabs et et2 e1 e2 dt
  rcases Int.lt_trichotomy y 0 with hy | hy | hy
  · have h1 : y * n ≤ (-1) * n := Int.mul_le_mul_of_nonneg_right (by omega) (by omega)
    have h2 : 0 < x * h := by omega
    have h3 : 0 < x := Int.pos_of_mul_pos_left h2 (by omega)
    have h4 : 1 * be ≤ x * be := Int.mul_le_mul_of_nonneg_right (by omega) (by omega)
    have h5 : y * re ≤ 0 := Int.mul_nonpos_of_nonpos_of_nonneg (by omega) r0
    omega
  · subst hy
    have h2 : 0 < x * h := by omega
    have h3 : 0 < x := Int.pos_of_mul_pos_left h2 (by omega)
    have h4 : 1 * be ≤ x * be := Int.mul_le_mul_of_nonneg_right (by omega) (by omega)
    omega
  · have h1 : 1 * n ≤ y * n := Int.mul_le_mul_of_nonneg_right (by omega) (by omega)
    have h2 : x * h < 0 := by omega
    have h3 : x < 0 := by
      rcases Int.lt_or_le x 0 with h | h
      · exact h
      · have := Int.mul_nonneg h h0
        omega
    have h4 : x * be ≤ (-1) * be := Int.mul_le_mul_of_nonneg_right (by omega) (by omega)
    have h5 : 0 ≤ y * re := Int.mul_nonneg (by omega) r0
    omega
theorem Cf.near {a b h n be re : Int} (hb : 0 < b) (c : Cf a b h n be re) : dst a b n ≤ re ∧ dst a b h ≤ be := by
  obtain ⟨⟨s, p0, p1, hs, e1, e2, _, _⟩, sum, h0, hn, n1, r0, rb, z⟩ := c
  have k1 := dst_le (a := a) (q := n) p1 hb
  have k2 := dst_le (a := a) (q := h) p0 hb
  rw [e1] at k1
  rw [e2] at k2
  rcases hs with rfl | rfl <;> constructor <;> omega
/-- what two neighbours among the best ones of one fraction are to each other -/
def Pair1 (a b v u : Int) : Prop := ∃ s p0 p1 be re : Int, (s = 1 ∨ s = -1) ∧ u * a - p1 * b = s * re ∧ v * a - p0 * b = -s * be ∧ u * p0 - v * p1 = s ∧ 0 ≤ re ∧ re < be ∧ 2 * re < b ∧ 2 * be ≤ b ∧ (s = 1 → 2 * be < b)
theorem Cf.pair {a b h n be re : Int} (hb : 0 < b) (c : Cf a b h n be re) (hh : 1 ≤ h) (hn2 : h < n) : Pair1 a b h n := by
  obtain ⟨⟨s, p0, p1, hs, e1, e2, z1, z2⟩, sum, h0, hn, n1, r0, rb, z⟩ := c
  have h2 : 2 * be ≤ n * be := Int.mul_le_mul_of_nonneg_right (show 2 ≤ n by omega) (by omega)
  have h3 := Int.mul_nonneg h0 r0
  exact ⟨s, p0, p1, be, re, hs, e1, e2, Cf.det hb e1 e2 sum, r0, rb, by omega, by omega, fun e => z2 hh e⟩
def PairsOk (a b : Int) (ns : List Int) : Prop := ∀ (i : Nat) (v u : Int), ns[i]? = some v → ns[i + 1]? = some u → Pair1 a b v u
theorem PairsOk.push {a b : Int} {ns : List Int} {h n : Int} (p : PairsOk a b ns) (hl : ns = [] ∨ (ns.getLast? = some h ∧ Pair1 a b h n)) : PairsOk a b (ns ++ [n]) := by
  intro i v u h1 h2
  by_cases hi : i + 1 < ns.length
  · rw [List.getElem?_append_left hi] at h2
    rw [List.getElem?_append_left (by omega)] at h1
    exact p i v u h1 h2
  · have hi2 : i + 1 = ns.length := by
      have := (List.getElem?_eq_some_iff.mp h2).1
      rw [List.length_append] at this
      simp at this
      omega
    rw [List.getElem?_append_left (by omega)] at h1
    rw [List.getElem?_append_right (by omega), hi2, Nat.sub_self] at h2
    have hu : u = n := by simpa using h2.symm
    rcases hl with hl | ⟨hl, hp⟩
    · rw [hl] at hi2
      simp at hi2
    · have hv : v = h := by
        rw [List.getLast?_eq_getElem?, ← hi2, Nat.add_sub_cancel, h1] at hl
        exact Option.some.inj hl
      rw [hu, hv]; exact hp
theorem PairsOk.pop {a b : Int} {ns : List Int} (p : PairsOk a b ns) : PairsOk a b ns.dropLast := by
  intro i v u h1 h2
  rw [List.getElem?_dropLast] at h1 h2
  split at h1
  · split at h2
    · exact p i v u h1 h2
    · cases h2
  · cases h1
end L3
namespace L3
open PySem PySem.Spec PyProof.Rows L2
local macro_rules | `(tactic| wtm_at "sh") => `(tactic| conv => whnf)
theorem bestL_stay {l : List (Int × Int)} {x : Nat} {w : Int} (hw : (bestL l x).getLast? = some w) : ∀ (d : Nat), (∀ j : Int, x < j → j ≤ x + d → lessM l w j = false) → bestL l (x + d) = bestL l x
  | 0, _ => rfl
  | d + 1, h => by
    have ih := bestL_stay hw d fun j h1 h2 => h j h1 (by omega)
    show bestS l (bestL l (x + d)) ((x + d + 1 : Nat) : Int) = _
    rw [ih]
    refine if_neg fun hc => ?_
    rcases hc with hc | ⟨v, hv, hl⟩
    · rw [hc] at hw; cases hw
    · rw [hw] at hv
      cases hv
      rw [h _ (by omega) (by omega)] at hl
      cases hl
theorem bestL_jump {l : List (Int × Int)} {x y : Nat} {w : Int} (hw : (bestL l x).getLast? = some w) (hxy : x < y) (h : ∀ j : Int, x < j → j < y → lessM l w j = false) (k : lessM l w y = true) : bestL l y = bestL l x ++ [(y : Int)] := by
  obtain ⟨d, rfl⟩ : ∃ d, y = x + d + 1 := ⟨y - x - 1, by omega⟩
  have st := bestL_stay hw d fun j h1 h2 => h j h1 (by omega)
  show bestS l (bestL l (x + d)) _ = _
  rw [st]
  exact if_pos (.inr ⟨w, hw, k⟩)
/-- what found holds when a number is pushed -/
theorem Cf.push {A B h n be re : Int} (hB : 0 < B) (ok : OkA [(A, B)]) (c : Cf (inL A B).1 (inL A B).2 h n be re) (hh : 1 ≤ h) (hn : h < n) (hw : (bestL [(A, B)] h.toNat).getLast? = some h) : bestL [(A, B)] n.toNat = bestL [(A, B)] h.toNat ++ [n] := by
  have hb := (inL_pos (A := A) hB).1
  have en : ((n.toNat : Nat) : Int) = n := Int.toNat_of_nonneg (by omega)
  have eh : ((h.toNat : Nat) : Int) = h := Int.toNat_of_nonneg (by omega)
  have nr := c.near hb
  have rb := c.rb
  have := bestL_jump (l := [(A, B)]) (x := h.toNat) (y := n.toNat) (w := h) hw (by omega) (fun j h1 h2 => by
    rw [lessM_one hB ok]
    have := c.far hb hh (j := j) (by omega) (by omega)
    exact decide_eq_false (by omega)) (by
    rw [lessM_one hB ok, en]
    have := c.far hb hh (j := h) (by omega) (by omega)
    exact decide_eq_true (by omega))
  rw [en] at this
  exact this
theorem half_mod {be re : Int} (h : 0 < re) (k : re ≤ be) : 2 * (be % re) ≤ be := by
  have d1 := Int.mul_ediv_add_emod be re
  have q1 : 1 ≤ be / re := Int.le_ediv_of_mul_le h (by omega)
  have m1 := Int.emod_lt_of_pos be h
  have := Int.mul_le_mul_of_nonneg_left q1 (show 0 ≤ re by omega)
  omega
def R1_best_of_one : TS3 := (xSeq (xAsg (xCall sp_near_row xNoE (xArg (xView 1) (xArg (xView 5) xANil))) (xGTup 2 (xGCons (xGName 8) (xGCons (xGName 9) xGNil))))
  (xSeq (xDrop (xApp 6 (xTup (xCons (xMove 5) (xCons (xMove 8) (xCons (xMove 9) xNil))))))
  (xSeq (xIfS (xTest (x2 kEqI (xView 7) (xC (.int 0)))) (xRet (xMove 6)) xNext)
  (xSeq (xAsg (xD (x2 kDiv (xView 3) (xView 7))) (xGName 10))
  (xSeq (xPar 4 5 (xCons (xMove 5) (xCons (xD (x2 kAdd (x2 kMul (xView 10) (xView 5)) (xView 4))) xNil)))
  (xPar 3 7 (xCons (xMove 7) (xCons (xD (x2 kMod (xView 3) (xView 7))) xNil))))))))
def N_best_of_one : List Str := ["fraction", "asking", "above", "below", "ahead", "number", "found", "rest", "row", "miss", "steps"]
def body_best_of_one : TS3 := (xSeq (xAsg (xTup (xCons (xMove 0) xNil)) (xGName 1))
  (xSeq (xDrop (xCall sp_need_asking xNoE (xArg (xView 1) xANil)))
  (xSeq (xAsg (xCall sp_in_least xNoE (xArg (x2 cIx (xView 0) (xC (.int 0))) (xArg (x2 cIx (xView 0) (xC (.int 1))) xANil))) (xGTup 2 (xGCons (xGName 2) (xGCons (xGName 3) xGNil))))
  (xSeq (xAsg (xD (xC (.int 0))) (xGName 4))
  (xSeq (xAsg (xD (xC (.int 1))) (xGName 5))
  (xSeq (xAsg (xLst xNil) (xGName 6))
  (xSeq (xAsg (xD (x2 kMod (xView 2) (xView 3))) (xGName 7))
  (xWhile (xTest (xC (.bool true))) (xSeq (xIfS (xAnd (xTest (x2 kNe (xView 6) (xFz (xLst xNil)))) (xTest (x2 kEq (x2 cIx (x2 cIx (xView 6) (xNeg (xC (.int 1)))) (xC (.int 0))) (xView 5)))) (xDrop (xPop 6)) xNext)
  R1_best_of_one)))))))))

def sp_best_of_one : Sp3 := fun ts Q _ => ∃ A B, ts = [.d (prI (A, B))] ∧ 0 < B ∧ Sz 1800 A ∧ Sz 1800 B ∧ ∀ p (m : Nat), 1 ≤ m → (m : Int) ≤ (inL A B).2 → (missL [(A, B)] m).1 = 0 → (bestL [(A, B)] m).getLast? = some (m : Int) → (bestL [(A, B)] m).length ≤ 5000 → PairsOk (inL A B).1 (inL A B).2 (bestL [(A, B)] m) → Q (bT [(A, B)] p (bestL [(A, B)] m)) ts
def B1W (A B : Int) (pf : Addr) (m : Nat) (r : Rho) : Prop := ∃ be h n L re u8 u9 u10 ns k, r = [some (.d (prI (A, B))), some (.d (asD [(A, B)])), some (.d (.int (inL A B).1)), some (.d (.int be)), some (.d (.int h)), some (.d (.int n)), some (.own pf L), some (.d (.int re)), u8, u9, u10] ∧ L = ns.map (fun q => T.d (trD [(A, B)] q)) ∧ Cf (inL A B).1 (inL A B).2 h n be re ∧ ((h = 0 ∧ ns = []) ∨ (1 ≤ h ∧ ns = bestL [(A, B)] h.toNat ∧ ns.getLast? = some h)) ∧ ns.length ≤ k ∧ (2 : Int) ^ k * (be * re) ≤ (inL A B).2 * (inL A B).2 ∧ k ≤ 3601 ∧ m = re.toNat ∧ PairsOk (inL A B).1 (inL A B).2 ns
theorem pow_small {b : Int} {k : Nat} (h0 : 0 < b) (sb : Sz 1800 b) (h : (2 : Int) ^ k ≤ b * b) : k < 3600 := by
  unfold Sz at sb
  have h1 : b * b < 2 ^ 3600 := by
    have e : b = (b.natAbs : Int) := by omega
    have h2 : b.natAbs * b.natAbs < 2 ^ 1800 * 2 ^ 1800 := Nat.mul_lt_mul'' sb sb
    rw [← Nat.pow_add] at h2
    have h3 : ((b.natAbs * b.natAbs : Nat) : Int) < ((2 ^ (1800 + 1800) : Nat) : Int) := Int.ofNat_lt.mpr h2
    rw [e]
    simpa using h3
  rcases Nat.lt_or_ge k 3600 with hk | hk
  · exact hk
  · have h4 : (2 : Int) ^ 3600 ≤ 2 ^ k := by
      have := Nat.pow_le_pow_right (show 0 < 2 by decide) hk
      exact_mod_cast this
    omega
theorem v_R1_best_of_one {A B : Int} (hB : 0 < B) (sA : Sz 1800 A) (sB : Sz 1800 B) {D : Ends3} {pf : Addr} {be h n re : Int} {u8 u9 u10 : Option T} {ns0 : List Int} {k : Nat}
    (cf : Cf (inL A B).1 (inL A B).2 h n be re) (e0 : bestL [(A, B)] n.toNat = ns0 ++ [n]) (l0 : ns0.length ≤ k) (hpot : (2 : Int) ^ k * (be * re) ≤ (inL A B).2 * (inL A B).2) (hk2 : k ≤ 3601) (hpp : PairsOk (inL A B).1 (inL A B).2 (ns0 ++ [n]))
    (hnx : ∀ m r, m < re.toNat → B1W A B pf m r → D.nx r) (hrt : ∀ r', (missL [(A, B)] n).1 = 0 → 1 ≤ n → n ≤ (inL A B).2 → D.rt (bT [(A, B)] pf (ns0 ++ [n])) (some (.d (prI (A, B))) :: r')) :
    R1_best_of_one D [some (.d (prI (A, B))), some (.d (asD [(A, B)])), some (.d (.int (inL A B).1)), some (.d (.int be)), some (.d (.int h)), some (.d (.int n)), some (.own pf (ns0.map (fun q => T.d (trD [(A, B)] q)))), some (.d (.int re)), u8, u9, u10] := by
  have ok : OkA [(A, B)] := fun p hp => by rw [List.mem_singleton.mp hp]; exact ⟨hB, sA.mono (by decide), sB.mono (by decide)⟩
  have hb := inL_pos (A := A) hB
  have sb : Sz 1800 (inL A B).2 := sB.le (by omega)
  have big : 10000 < sizeLine := by decide
  have n1 := cf.n1
  have r0 := cf.r0
  have rb := cf.rb
  have h0 := cf.h0
  have hsum := cf.sum
  have nb : n ≤ (inL A B).2 := by
    have h2 := Int.mul_nonneg h0 r0
    have h3 := Int.mul_le_mul_of_nonneg_left (show 1 ≤ be by omega) (show 0 ≤ n by omega)
    omega
  have bb : be ≤ (inL A B).2 := by
    have h2 := Int.mul_nonneg h0 r0
    have h3 := Int.mul_le_mul_of_nonneg_right n1 (show 0 ≤ be by omega)
    omega
  have sn : Sz 1800 n := sb.le (by omega)
  have sbe : Sz 1800 be := sb.le (by omega)
  have sre : Sz 1800 re := sb.le (by omega)
  refine ⟨nd0, [(A, B)], n, rfl, List.cons_ne_nil _ _, (show 1 ≤ 1000 by decide), ok, n1, sn.mono (by decide), rfl, sz 3, by rw [List.length_map]; omega, fun hc => ?_, fun hc => ?_⟩
  · have hz : re = 0 := of_decide_eq_true hc
    have hd := (cf.near hb.1).1
    have e1 := missL_one (A := A) hB n
    have hm := missL_ok (q := n) ok
    have hd0 : dst (inL A B).1 (inL A B).2 n = 0 := by
      have := dst_nonneg (inL A B).1 (inL A B).2 n hb.1
      omega
    rw [hd0, Int.zero_mul] at e1
    have hm0 : (missL [(A, B)] n).1 = 0 := by
      rcases Int.mul_eq_zero.mp e1 with h | h
      · exact h
      · omega
    have hr2 : ∀ r', D.rt (.own pf (ns0.map (fun q => T.d (trD [(A, B)] q)) ++ [T.d (trD [(A, B)] n)])) (some (.d (prI (A, B))) :: r') := fun r' => by
      have := hrt r' hm0 n1 nb
      unfold bT at this
      rw [List.map_append] at this
      exact this
    exact hr2 _
  · have hre : 0 < re := by
      have : ¬ re = 0 := of_decide_eq_false hc
      omega
    have st := cf.step hre
    have hm := half_mod hre (Int.le_of_lt rb)
    have mm := Int.emod_nonneg be (show re ≠ 0 by omega)
    have ml := Int.emod_lt_of_pos be hre
    have hk3 : k < 3600 := pow_small hb.1 sb (by
      have h1 : 1 ≤ be * re := by
        have := Int.mul_le_mul (a := 1) (b := 1) (show 1 ≤ be by omega) (show 1 ≤ re by omega) (by decide) (by omega)
        omega
      have h2 := Int.mul_le_mul_of_nonneg_left h1 (show (0 : Int) ≤ 2 ^ k from Int.le_of_lt (Int.pow_pos (by decide)))
      omega)
    refine ⟨divOk hre sre (by decide), mulOk (sbe.div hre) sn (by decide), hre, ?_⟩
    refine hnx _ _ (show (be % re).toNat < re.toNat by omega) ⟨_, _, _, _, _, _, _, _, ns0 ++ [n], k + 1, rfl, by rw [List.map_append]; rfl, st, .inr ⟨n1, e0.symm, by simp⟩, by rw [List.length_append]; simp; omega, ?_, by omega, rfl, hpp⟩
    have p0 : (0 : Int) ≤ 2 ^ k := Int.le_of_lt (Int.pow_pos (by decide))
    have h4 : 2 * (re * (be % re)) ≤ be * re := by
      have := Int.mul_le_mul_of_nonneg_left hm (Int.le_of_lt hre)
      have e : re * (2 * (be % re)) = 2 * (re * (be % re)) := by grind
      have e2 : re * be = be * re := Int.mul_comm _ _
      omega
    have h5 := Int.mul_le_mul_of_nonneg_left h4 p0
    rw [Int.pow_succ]
    have e3 : (2 : Int) ^ k * 2 * (re * (be % re)) = 2 ^ k * (2 * (re * (be % re))) := by grind
    omega
theorem v_best_of_one (ts Q E) (h : sp_best_of_one ts Q E) : body_best_of_one { nx := fun r => finOk ts r ∧ Q (.d .none) (finF ts r), rt := fun x r => finOk ts r ∧ Q x (finF ts r) } (start3 N_best_of_one ts) := by
  obtain ⟨A, B, rfl, hB, sA, sB, q⟩ := h
  have ok : OkA [(A, B)] := fun p hp => by rw [List.mem_singleton.mp hp]; exact ⟨hB, sA.mono (by decide), sB.mono (by decide)⟩
  have hb := inL_pos (A := A) hB
  have sb : Sz 1800 (inL A B).2 := sB.le (by omega)
  have big : 10000 < sizeLine := by decide
  refine ⟨sz 1, nd0, [(A, B)], rfl, List.cons_ne_nil _ _, fun p hp => (ok p hp).1, _, rfl, _, rfl, nd0, A, B, rfl, hB, sB.mono (by decide), rfl, sz 0, fun pf => ⟨hb.1, ?_⟩⟩
  refine ⟨B1W A B pf, ⟨_, _, _, _, _, _, _, _, _, [], 0, rfl, rfl, Cf.start hb.1, .inl ⟨rfl, rfl⟩, by decide, ?_, by decide, rfl, fun i v u h => by simp at h⟩, fun m r hW => ?_⟩
  · have := Int.emod_lt_of_pos (inL A B).1 hb.1
    have h2 := Int.mul_le_mul_of_nonneg_left (Int.le_of_lt this) (show 0 ≤ (inL A B).2 by omega)
    omega
  obtain ⟨be, h, n, _, re, u8, u9, u10, ns, k, rfl, rfl, cf, hns, hk, hpot, hk2, rfl, hpp⟩ := hW
  have n1 := cf.n1
  have fin : ∀ (ns0 : List Int), bestL [(A, B)] n.toNat = ns0 ++ [n] → ns0.length ≤ k → PairsOk (inL A B).1 (inL A B).2 (ns0 ++ [n]) → ∀ r', (missL [(A, B)] n).1 = 0 → 1 ≤ n → n ≤ (inL A B).2 → finOk [.d (prI (A, B))] (some (.d (prI (A, B))) :: r') ∧ Q (bT [(A, B)] pf (ns0 ++ [n])) (finF [.d (prI (A, B))] (some (.d (prI (A, B))) :: r')) := fun ns0 e0 l0 hp0 r' h1 h2 h3 => by
    have en : ((n.toNat : Nat) : Int) = n := Int.toNat_of_nonneg (by omega)
    have := q pf n.toNat (by omega) (by omega) (by rw [en]; exact h1) (by rw [e0, en]; simp) (by rw [e0, List.length_append]; simp; omega) (by rw [e0]; exact hp0)
    rw [e0] at this
    exact ⟨⟨⟩, this⟩
  refine ⟨fun _ => ?_, nofun⟩
  rcases hns with ⟨rfl, rfl⟩ | ⟨hh, rfl, hlast⟩
  · have e1 : n = 1 := cf.z rfl
    have e0 : bestL [(A, B)] n.toNat = [] ++ [n] := by rw [e1]; rfl
    refine ⟨sz 0, fun p2 => ⟨rfl, rfl, rfl, shp_nilL, shp_nilL, nofun, fun _ => ⟨nofun, fun _ => ?_⟩⟩⟩
    have hq : PairsOk (inL A B).1 (inL A B).2 ([] ++ [n]) := hpp.push (h := 0) (.inl rfl)
    refine v_R1_best_of_one hB sA sB cf e0 hk hpot hk2 hq ?_ ?_
    · exact fun m r h1 h2 => ⟨m, h1, h2⟩
    · exact (fin [] e0 hk hq)
  · have nl : Nest 4 (.list (fzs ((bestL [(A, B)] h.toNat).map fun q => T.d (trD [(A, B)] q)))) := nest_best (n := 0) (l := [(A, B)]) (show 1 ≤ 1000 by decide) (by omega)
    have hne : bestL [(A, B)] h.toNat ≠ [] := fun e => by rw [e] at hlast; cases hlast
    have eqn : ∀ x : Int, SeqAt.shaped (.int x) = true := fun _ => rfl
    refine ⟨sz 0, fun p2 => ⟨rfl, rfl, nvs_map _ _, nest_shaped nl (by decide), shp_nilL, fun _ => ?_, fun hc => ?_⟩⟩
    · refine ⟨rfl, _, bT_last hlast, _, rfl, eqn _, eqn _, fun hc => ?_, fun hc => ?_⟩
      · have ehn : h = n := by
          have h3 : PyData.eqv (.int h) (.int n) = true := hc
          simpa [PyData.eqv] using h3
        have hl2 : ((bestL [(A, B)] h.toNat).map fun q => T.d (trD [(A, B)] q)).getLast? = some (.d (trD [(A, B)] h)) := by rw [List.getLast?_map, hlast]; rfl
        have ed : bestL [(A, B)] h.toNat = (bestL [(A, B)] h.toNat).dropLast ++ [h] := by
          have h4 := List.dropLast_concat_getLast hne
          have h5 : (bestL [(A, B)] h.toNat).getLast hne = h := by
            rw [List.getLast?_eq_getLast hne] at hlast
            exact Option.some.inj hlast
          rw [h5] at h4
          exact h4.symm
        refine ⟨_, hl2, ?_⟩
        have e9 : ((bestL [(A, B)] h.toNat).map fun q => T.d (trD [(A, B)] q)).dropLast = (bestL [(A, B)] h.toNat).dropLast.map fun q => T.d (trD [(A, B)] q) := by rw [List.map_dropLast]
        have e0 : bestL [(A, B)] n.toNat = (bestL [(A, B)] h.toNat).dropLast ++ [n] := by rw [← ehn]; exact ed
        have l0 : (bestL [(A, B)] h.toNat).dropLast.length ≤ k := by rw [List.length_dropLast]; omega
        rw [e9]
        have hq : PairsOk (inL A B).1 (inL A B).2 ((bestL [(A, B)] h.toNat).dropLast ++ [n]) := by rw [← e0, ← ehn]; exact hpp
        refine v_R1_best_of_one hB sA sB cf e0 l0 hpot hk2 hq ?_ ?_
        · exact fun m r h1 h2 => ⟨m, h1, h2⟩
        · exact (fin _ e0 l0 hq)
      · have ehn : h ≠ n := by
          intro e
          have h3 : PyData.eqv (.int h) (.int n) = false := hc
          rw [e] at h3
          simp [PyData.eqv] at h3
        have hhn := cf.hn
        have e0 := cf.push hB ok hh (by omega) hlast
        have hq : PairsOk (inL A B).1 (inL A B).2 (bestL [(A, B)] h.toNat ++ [n]) := hpp.push (.inr ⟨hlast, cf.pair hb.1 hh (by omega)⟩)
        refine v_R1_best_of_one hB sA sB cf e0 hk hpot hk2 hq ?_ ?_
        · exact fun m r h1 h2 => ⟨m, h1, h2⟩
        · exact (fin _ e0 hk hq)
    · have := eqv_nilL (l := fzs ((bestL [(A, B)] h.toNat).map fun q => T.d (trD [(A, B)] q))) (by rw [fzs_map]; simpa using hne)
      have h3 : (!PyData.eqv (.list (fzs ((bestL [(A, B)] h.toNat).map fun q => T.d (trD [(A, B)] q)))) (.list [])) = false := hc
      rw [this] at h3
      cases h3
end L3
namespace L3
open PySem PySem.Spec PyProof.Rows L2
local macro_rules | `(tactic| wtm_at "sh") => `(tactic| conv => whnf)
def N_law_best_2 : List Str := ["_law_fraction_here", "_law_found", "_law_q", "_law_row", "_law_miss"]
def body_law_best_2 : TS3 := (xSeq (xAsg (xLst xNil) (xGName 1))
  (xSeq (xFor (xR2 (xC (.int 1)) (x2 kAdd (x2 cIx (xView 0) (xC (.int 1))) (xC (.int 1)))) (xGName 2) (xSeq (xAsg (xCall sp_law_near_1 xNoE (xArg (xFz (xTup (xCons (xMove 0) xNil))) (xArg (xView 2) xANil))) (xGTup 2 (xGCons (xGName 3) (xGCons (xGName 4) xGNil))))
  (xIfS (xOr (xTest (x2 kEq (xView 1) (xFz (xLst xNil)))) (xTest (x2 kLt (x2 kMul (x2 cIx (xView 4) (xC (.int 0))) (x2 cIx (x2 cIx (x2 cIx (xView 1) (xNeg (xC (.int 1)))) (xC (.int 2))) (xC (.int 1)))) (x2 kMul (x2 cIx (x2 cIx (x2 cIx (xView 1) (xNeg (xC (.int 1)))) (xC (.int 2))) (xC (.int 0))) (x2 cIx (xView 4) (xC (.int 1))))))) (xDrop (xApp 1 (xTup (xCons (xMove 2) (xCons (xMove 3) (xCons (xMove 4) xNil)))))) xNext)))
  (xRet (xMove 1))))

def sp_law_best_2 : Sp3 := fun ts Q _ => ∃ A, ∃ n : Nat, ts = [.d (prI (A, (n : Int)))] ∧ OkA [(A, (n : Int))] ∧ 1 ≤ n ∧ n ≤ 100000 ∧ ∀ p, Q (bT [(A, (n : Int))] p (bestL [(A, (n : Int))] n)) ts
theorem v_law_best_2 (ts Q E) (h : sp_law_best_2 ts Q E) : body_law_best_2 { nx := fun r => finOk ts r ∧ Q (.d .none) (finF ts r), rt := fun x r => finOk ts r ∧ Q x (finF ts r) } (start3 N_law_best_2 ts) := by
  obtain ⟨A, n, rfl, ok, hn, hn2, h⟩ := h
  have hb : 100000 < sizeLine := by decide
  have hl : [(A, (n : Int))] ≠ [] := List.cons_ne_nil _ _
  have hlen : [(A, (n : Int))].length ≤ 1000 := show 1 ≤ 1000 by decide
  generalize hle : [(A, (n : Int))] = l at *
  have el : fz (mkTup [.d (prI (A, (n : Int)))]) = asD l := by rw [← hle]; rfl
  refine ⟨sz 0, fun p => ⟨_, rfl, ?_⟩⟩
  refine ⟨⟨by decide, by decide, by omega, by omega⟩, fun i r => ∃ L a b c, r = [some (.d (prI (A, (n : Nat)))), some (.own p L), a, b, c] ∧ L = (bestL l i).map fun q => T.d (trD l q), ⟨_, _, _, _, rfl, rfl⟩, fun i x r hx hW => ?_, fun r hW => ?_⟩
  · obtain ⟨_, a, b, c, rfl, rfl⟩ := hW
    obtain ⟨hi, rfl⟩ := rangeI_get hx
    have e1 : (1 : Int) + (i : Nat) = ((i + 1 : Nat) : Int) := by omega
    rw [e1]
    have hi2 : i + 1 ≤ 100000 := by omega
    have lb := bestL_len l i
    have sq : Sz 2000 ((i + 1 : Nat) : Int) := by unfold Sz; exact Nat.lt_of_lt_of_le (show ((i + 1 : Nat) : Int).natAbs < 2 ^ 20 by omega) (Nat.pow_le_pow_right (by decide) (by decide))
    refine ⟨sz 1, nd0, l, _, by rw [← hle]; rfl, hl, hlen, ok, by omega, sq, rfl, sz 0, fun p2 => ⟨rfl, rfl, nvs_map _ _, nest_shaped (nest_best (n := 3) hlen (by omega)) (by decide), shp_nilL, fun hc => ?_, fun hc => ?_⟩⟩
    · have e0 : bestL l i = [] := Classical.byContradiction fun hne => by
        have := eqv_nilL (l := fzs ((bestL l i).map fun q => T.d (trD l q))) (by rw [fzs_map]; simpa using hne)
        rw [show PyData.eqv (.list (fzs ((bestL l i).map fun q => T.d (trD l q)))) (.list []) = true from hc] at this
        cases this
      have e2 : bestL l (i + 1) = bestL l i ++ [((i + 1 : Nat) : Int)] := if_pos (.inl e0)
      refine ⟨fun _ => ⟨sz 3, by rw [List.length_map]; omega, _, _, _, _, rfl, by rw [e2, List.map_append]; rfl⟩, nofun⟩
    · have e0 : bestL l i ≠ [] := fun e => by
        rw [e] at hc
        exact absurd (show PyData.eqv (.list []) (.list []) = false from hc) (by decide)
      obtain ⟨w, hw⟩ : ∃ w, (bestL l i).getLast? = some w := ⟨_, List.getLast?_eq_getLast e0⟩
      have mw := missL_ok (q := w) ok
      have mq := missL_ok (q := ((i + 1 : Nat) : Int)) ok
      refine ⟨_, rfl, rfl, _, bT_last hw, _, rfl, _, rfl, mulOk mq.2.2.1 mw.2.2.2 (by decide), rfl, _, bT_last hw, _, rfl, _, rfl, _, rfl, mulOk mw.2.2.1 mq.2.2.2 (by decide), fun hc2 => ?_, fun hc2 => ?_⟩
      · have e2 : bestL l (i + 1) = bestL l i ++ [((i + 1 : Nat) : Int)] := if_pos (.inr ⟨w, hw, hc2⟩)
        exact ⟨sz 3, by rw [List.length_map]; omega, _, _, _, _, rfl, by rw [e2, List.map_append]; rfl⟩
      · have e2 : bestL l (i + 1) = bestL l i := if_neg fun h2 => by
          rcases h2 with h2 | ⟨w2, h3, h4⟩
          · exact e0 h2
          · rw [hw] at h3
            cases h3
            rw [show lessM l w ((i + 1 : Nat) : Int) = false from hc2] at h4
            cases h4
        exact ⟨_, _, _, _, rfl, by rw [e2]⟩
  · obtain ⟨_, a, b, c, rfl, rfl⟩ := hW
    have e : ((n : Int) + 1 - 1).toNat = n := by omega
    rw [rangeI_len]
    show finOk _ _ ∧ Q (bT l p (bestL l ((n : Int) + 1 - 1).toNat)) _
    rw [e]
    exact ⟨⟨⟩, h p⟩
/-- behind a miss of 0 nothing is better -/
theorem bestL_done {l : List (Int × Int)} (ok : OkA l) {m : Nat} (hm : (missL l m).1 = 0) (hw : (bestL l m).getLast? = some (m : Int)) {n : Nat} (h : m ≤ n) : bestL l n = bestL l m := by
  obtain ⟨d, rfl⟩ : ∃ d, n = m + d := ⟨n - m, by omega⟩
  refine bestL_stay hw d fun j h1 h2 => ?_
  have hj := missL_ok (q := j) ok
  have hm2 := missL_ok (q := (m : Int)) ok
  refine decide_eq_false ?_
  rw [hm, Int.zero_mul]
  have := Int.mul_nonneg hj.1 (Int.le_of_lt hm2.2.1)
  omega
def L1_law_10 : TS3 := (xFor (xR1 (xC (.int 2))) (xGName 7) (xSeq (xAsg (xCall sp_best_of_one xNoE (xArg (xView 5) xANil)) (xGName 8))
  (xSeq (xIfS (xBorT (xNot (xTest (xFz (xCall (sp_law_same_1 8) xNoE (xArg (xView 8) (xArg (xView 6) xANil))))))) (xRet (xD (xC (.bool false)))) xNext)
  (xDrop (xPop 8)))))
def L2_law_10 : TS3 := (xFor (xR1 (xC (.int 26))) (xGName 2) (xSeq (xAsg (xCall sp_law_fraction_1 xNoE (xIo 1 xANil)) (xGTup 2 (xGCons (xGName 3) (xGCons (xGName 4) xGNil))))
  (xSeq (xAsg (xTup (xCons (xMove 3) (xCons (xD (x2 kAdd (xC (.int 1)) (x2 kMod (xView 4) (x2 cIx (xFz (xLst (xCons (xD (xC (.int 60))) (xCons (xD (xC (.int 600))) xNil)))) (x1 cInt (x2 kGt (xView 2) (xC (.int 19)))))))) xNil))) (xGName 5))
  (xSeq (xAsg (xCall sp_law_best_2 xNoE (xArg (xView 5) xANil)) (xGName 6))
  L1_law_10))))
def N_law_10 : List Str := ["_law_script", "_law_deck_here", "_law_turn", "_law_above", "_law_below_here", "_law_fraction_here", "_law_due", "_law_again", "_law_found"]
def body_law_10 : TS3 := (xSeq (xAsg (xCall sp_law_deck xNoE (xArg (xView 0) xANil)) (xGName 1))
  (xSeq L2_law_10
  (xRet (xD (xAndV (x2 kEq (xFz (xCall sp_best_of_one xNoE (xArg (xFz (xTup (xCons (xD (xC (.int 0))) (xCons (xD (xC (.int 5))) xNil)))) xANil))) (xFz (xLst (xCons (xTup (xCons (xD (xC (.int 1))) (xCons (xTup (xCons (xD (xC (.int 0))) xNil)) (xCons (xTup (xCons (xD (xC (.int 0))) (xCons (xD (xC (.int 1))) xNil))) xNil)))) xNil)))) (x2 kEq (xFz (xCall sp_best_of_one xNoE (xArg (xFz (xTup (xCons (xD (xC (.int 1))) (xCons (xD (xC (.int 2))) xNil)))) xANil))) (xFz (xLst (xCons (xTup (xCons (xD (xC (.int 1))) (xCons (xTup (xCons (xD (xC (.int 0))) xNil)) (xCons (xTup (xCons (xD (xC (.int 1))) (xCons (xD (xC (.int 2))) xNil))) xNil)))) (xCons (xTup (xCons (xD (xC (.int 2))) (xCons (xTup (xCons (xD (xC (.int 1))) xNil)) (xCons (xTup (xCons (xD (xC (.int 0))) (xCons (xD (xC (.int 1))) xNil))) xNil)))) xNil))))))))))

theorem v_law_10 (ts Q E) (h : spLaw ts Q E) : body_law_10 { nx := fun r => finOk ts r ∧ Q (.d .none) (finF ts r), rt := fun x r => finOk ts r ∧ Q x (finF ts r) } (start3 N_law_10 ts) := by
  obtain ⟨a, ns, rfl, hl, q⟩ := h
  refine ⟨nd0, a, ns, rfl, hl, fun dk l0 hd0 => ?_⟩
  refine ⟨by decide, by decide, fun i r => ∃ l b c d e f g h, r = [some (.sc a ns), some (.own dk l), b, c, d, e, f, g, h] ∧ i ≤ 26 ∧ DeckOk (10000 + (26 - i) * 1000) l, ⟨l0, _, _, _, _, _, _, _, rfl, by decide, hd0.mono (by decide)⟩, fun i x r hx hW => ?_, fun r hW => ?_⟩
  · obtain ⟨l, b, c, d, e, f, g, h, rfl, hi, hd⟩ := hW
    obtain ⟨hi4, rfl⟩ := rangeI_get hx
    have hi4' : i < 26 := hi4
    refine ⟨nd1, 10000 + (25 - i) * 1000 + 900, dk, l, rfl, hd.mono (by omega), fun z l1 hz hd1 => ?_⟩
    obtain ⟨z1, z2, z3, z4⟩ := hz
    have hy : ∀ bb : Bool, ∃ s : Int, getI [PyData.int 60, .int 600] (if bb = true then 1 else 0) = some (.int s) ∧ 0 < s ∧ s ≤ 600 := fun bb => by
      cases bb
      · exact ⟨60, rfl, by decide, by decide⟩
      · exact ⟨600, rfl, by decide, by decide⟩
    obtain ⟨s, gs, hs1, hs2⟩ := hy (decide (19 < 0 + (i : Int)))
    refine ⟨rfl, sz 2, fun p2 => ⟨rfl, _, gs, hs1, sz 2, ?_⟩⟩
    have m0 := Int.emod_nonneg z.2 (show s ≠ 0 by omega)
    have m1 := Int.emod_lt_of_pos z.2 hs1
    obtain ⟨n, en, hn1, hn2⟩ : ∃ n : Nat, (1 + z.2 % s : Int) = (n : Nat) ∧ 1 ≤ n ∧ n ≤ 600 := ⟨(1 + z.2 % s).toNat, by rw [Int.toNat_of_nonneg (by omega)], by omega, by omega⟩
    have ok : OkA [(z.1, (n : Int))] := FrOk.ok fun y hy => by
      rw [List.mem_singleton.mp hy]
      exact ⟨by show (0 : Int) < (n : Int); omega, by show (n : Int) ≤ _; omega, z3, z4⟩
    have hlen : [(z.1, (n : Int))].length ≤ 1000 := show 1 ≤ 1000 by decide
    have big : 100000 < sizeLine := by decide
    have sA : Sz 1800 z.1 := by unfold Sz; exact Nat.lt_of_lt_of_le (show z.1.natAbs < 2 ^ 80 by omega) (Nat.pow_le_pow_right (by decide) (by decide))
    have sB : Sz 1800 (n : Int) := by unfold Sz; exact Nat.lt_of_lt_of_le (show (n : Int).natAbs < 2 ^ 80 by omega) (Nat.pow_le_pow_right (by decide) (by decide))
    refine ⟨nd0, z.1, n, by rw [← en]; rfl, ok, hn1, by omega, fun pd => ?_⟩
    refine ⟨by decide, by decide, fun j r => ∃ t u1 u2 g h, r = [some (.sc a ns), some (.own dk l1), some (.d t), some (.d u1), some (.d u2), some (.d (.tuple [.int z.1, .int (1 + z.2 % s)])), some (bT [(z.1, (n : Int))] pd (bestL [(z.1, (n : Int))] n)), g, h], ⟨_, _, _, _, _, rfl⟩, fun j x r hx hW => ?_, fun r hW => ?_⟩
    · obtain ⟨t, u1, u2, g, h, rfl⟩ := hW
      obtain ⟨_, rfl⟩ := rangeI_get hx
      refine ⟨nd0, z.1, n, by rw [← en], by omega, sA, sB, fun pf m hm1 hm2 hm0 hml hmn _ => ?_⟩
      have hmle : m ≤ n := by
        have := (inL_pos (A := z.1) (show (0 : Int) < (n : Int) by omega)).2
        omega
      have ed := bestL_done ok hm0 hml hmle
      have nb : Nest 8 (bD [(z.1, (n : Int))] (bestL [(z.1, (n : Int))] m)) := nest_bD (n := 4) hlen (by omega)
      refine ⟨⟨hd1.nv, nvs_map _ _, nvs_map _ _, ⟨⟩⟩, nd0, bD [(z.1, (n : Int))] (bestL [(z.1, (n : Int))] m), ?_, nb, nofun, fun _ => ?_⟩
      · have e1 := fz_bT [(z.1, (n : Int))] pf (bestL [(z.1, (n : Int))] m)
        have e2 := fz_bT [(z.1, (n : Int))] pd (bestL [(z.1, (n : Int))] n)
        rw [ed] at e2
        show [T.d (fz (bT [(z.1, (n : Int))] pf (bestL [(z.1, (n : Int))] m))), T.d (fz (bT [(z.1, (n : Int))] pd (bestL [(z.1, (n : Int))] n)))] = _
        rw [e1, ed, e2]
      · exact ⟨.d (trD [(z.1, (n : Int))] m), by rw [List.getLast?_map, hml]; rfl, _, _, _, _, _, rfl⟩
    · obtain ⟨t, u1, u2, g, h, rfl⟩ := hW
      exact ⟨l1, _, _, _, _, _, _, _, rfl, by omega, hd1.mono (by omega)⟩
  · obtain ⟨l, b, c, d, e, f, g, h, rfl, hi, hd⟩ := hW
    have s5 : Sz 1800 5 := (show Sz 3 5 by unfold Sz; decide).mono (by decide)
    have s0 : Sz 1800 0 := (show Sz 3 0 by unfold Sz; decide).mono (by decide)
    have s1 : Sz 1800 1 := (show Sz 3 1 by unfold Sz; decide).mono (by decide)
    have s2 : Sz 1800 2 := (show Sz 3 2 by unfold Sz; decide).mono (by decide)
    have c1 : (inL 0 5).2 = 1 ∧ (inL 1 2).2 = 2 ∧ (missL [(1, 2)] 1).1 ≠ 0 := by decide +kernel
    have d1 : bestL [(0, 5)] 1 = [1] ∧ rowF [(0, 5)] 1 = [0] ∧ missL [(0, 5)] 1 = (0, 1) := by decide +kernel
    have d2 : bestL [(1, 2)] 2 = [1, 2] ∧ rowF [(1, 2)] 1 = [0] ∧ missL [(1, 2)] 1 = (1, 2) ∧ rowF [(1, 2)] 2 = [1] ∧ missL [(1, 2)] 2 = (0, 1) := by decide +kernel
    refine ⟨sz 2, nd0, 0, 5, rfl, by decide, s0, s5, fun pf m hm1 hm2 hm0 hml hmn _ => ⟨nvs_map _ _, ?_⟩⟩
    rw [c1.1] at hm2
    obtain rfl : m = 1 := by omega
    rw [fz_bT]
    have f1 : bD [(0, 5)] (bestL [(0, 5)] 1) = .list [.tuple [.int 1, .tuple [.int 0], .tuple [.int 0, .int 1]]] := by
      rw [d1.1]
      show PyData.list [trD _ 1] = _
      simp only [trD, d1.2.1, d1.2.2]
      rfl
    rw [f1]
    refine ⟨sz 1, sz 2, sz 3, sz 1, fun p2 => ⟨rfl, rfl, rfl, fun _ => ?_, nofun⟩⟩
    refine ⟨sz 2, nd0, 1, 2, rfl, by decide, s1, s2, fun pf m hm1 hm2 hm0 hml hmn _ => ⟨nvs_map _ _, ?_⟩⟩
    rw [c1.2.1] at hm2
    obtain rfl : m = 2 := by
      rcases (show m = 1 ∨ m = 2 by omega) with rfl | rfl
      · exact absurd hm0 c1.2.2
      · rfl
    rw [fz_bT]
    have f2 : bD [(1, 2)] (bestL [(1, 2)] 2) = .list [.tuple [.int 1, .tuple [.int 0], .tuple [.int 1, .int 2]], .tuple [.int 2, .tuple [.int 1], .tuple [.int 0, .int 1]]] := by
      rw [d2.1]
      show PyData.list [trD _ 1, trD _ 2] = _
      simp only [trD, d2.2.1, d2.2.2.1, d2.2.2.2.1, d2.2.2.2.2]
      rfl
    rw [f2]
    exact ⟨sz 1, sz 2, sz 3, sz 1, sz 2, sz 3, sz 2, fun p3 => ⟨rfl, rfl, rfl, ⟨⟩, q _⟩⟩
end L3
namespace L3
open PySem PySem.Spec PyProof.Rows L2
local macro_rules | `(tactic| wtm_at "sh") => `(tactic| conv => whnf)
/-- up to any bound -/
theorem bestL_part {l : List (Int × Int)} (ok : OkA l) {m : Nat} (hm : (missL l m).1 = 0) (hw : (bestL l m).getLast? = some (m : Int)) (k : Nat) : (bestL l m).filter (fun q => decide (q ≤ (k : Int))) = bestL l k := by
  rcases Nat.le_total k m with h | h
  · exact bestL_cut h
  · rw [bestL_done ok hm hw h, List.filter_eq_self]
    intro q hq
    have := bestL_mem hq
    exact decide_eq_true (by omega)
theorem pairs_at {l : List (Int × Int)} {m j : Nat} {x : PyData} (hx : (zipD ((bestL l m).map fun q => trD l q) (((bestL l m).map fun q => trD l q).drop 1))[j]? = some x) : ∃ a b, (bestL l m)[j]? = some a ∧ (bestL l m)[j + 1]? = some b ∧ x = .tuple [trD l a, trD l b] := by
  unfold zipD at hx
  rw [List.getElem?_zipWith, List.getElem?_drop, List.getElem?_map, List.getElem?_map, Nat.add_comm 1 j] at hx
  cases e1 : (bestL l m)[j]? with
  | none => rw [e1] at hx; cases hx
  | some u =>
    cases e2 : (bestL l m)[j + 1]? with
    | none => rw [e1, e2] at hx; cases hx
    | some v => rw [e1, e2] at hx; exact ⟨u, v, rfl, rfl, (Option.some.inj hx).symm⟩
theorem cut_one {α : Type} {l : List α} (h : 0 < l.length) : cutL l (some 1) none = l.drop 1 := by
  unfold cutL
  rw [HT.sIx_none, show HT.sIx l.length 0 (some (1 : Int)) = min 1 l.length from HT.sIx_nat _ 0 1, Nat.min_eq_left h]
  rw [List.take_of_length_le (by rw [List.length_drop]; exact Nat.le_refl _)]
def L1_law_13 : TS3 := (xFor (xZip (xView 6) (xFz (xSl (xView 6) (xSome (xC (.int 1))) xNo))) (xGTup 2 (xGCons (xGName 8) (xGCons (xGName 9) xGNil))) (xIfS (xAnd (xTest (x2 kLe (x2 cIx (xView 9) (xC (.int 0))) (xView 7))) (xTest (x2 kNe (xFz (xCall sp_next_through xNoE (xArg (xFz (xTup (xCons (xMove 5) xNil))) (xArg (x2 cIx (xView 8) (xC (.int 0))) xANil)))) (xView 9)))) (xRet (xD (xC (.bool false)))) xNext))
def R2_law_13 : TS3 := (xSeq (xAsg (xTup (xCons (xMove 3) (xCons (xMove 4) xNil))) (xGName 5))
  (xSeq (xAsg (xCall sp_best_of_one xNoE (xArg (xView 5) xANil)) (xGName 6))
  (xFzS 6 (xSeq (xAsg (xD (x2 kAdd (xC (.int 1)) (xFz (xCall sp_law_take xNoE (xIo 1 (xArg (xC (.int 1000)) xANil)))))) (xGName 7))
  (xSeq (xIfS (xTest (x2 kNe (xFz (xCall sp_best_to xNoE (xArg (xFz (xTup (xCons (xMove 5) xNil))) (xArg (xView 7) xANil)))) (xFz (xLc (xSeqI (xView 6)) (xGName 8) (xTest (x2 kLe (x2 cIx (xView 8) (xC (.int 0))) (xView 7))) (xMove 8) [8])))) (xRet (xD (xC (.bool false)))) xNext)
  (xSeq L1_law_13
  (xIfS (xAnd (xTest (x2 kLe (x2 cIx (x2 cIx (xView 6) (xNeg (xC (.int 1)))) (xC (.int 0))) (xC (.int 3000)))) (xTest (x2 kNotN (xFz (xCall sp_next_through xNoE (xArg (xFz (xTup (xCons (xMove 5) xNil))) (xArg (x2 cIx (x2 cIx (xView 6) (xNeg (xC (.int 1)))) (xC (.int 0))) xANil)))) (xC .none)))) (xRet (xD (xC (.bool false)))) xNext)))))))
def L3_law_13 : TS3 := (xFor (xR1 (xC (.int 8))) (xGName 2) (xSeq (xAsg (xCall sp_law_fraction_1 xNoE (xIo 1 xANil)) (xGTup 2 (xGCons (xGName 3) (xGCons (xGName 4) xGNil))))
  (xSeq (xIfS (xTest (x2 kEqI (xFz (xCall sp_law_take xNoE (xIo 1 (xArg (xC (.int 2)) xANil)))) (xC (.int 0)))) (xAsg (xD (x2 kAdd (xC (.int 1)) (x2 kMod (xView 4) (xC (.int 700))))) (xGName 4)) xNext)
  R2_law_13)))
def N_law_13 : List Str := ["_law_script", "_law_deck_here", "_law_turn", "_law_above", "_law_below_here", "_law_fraction_here", "_law_every", "_law_bound", "_law_one", "_law_other"]
def body_law_13 : TS3 := (xSeq (xAsg (xCall sp_law_deck xNoE (xArg (xView 0) xANil)) (xGName 1))
  (xSeq L3_law_13
  (xRet (xD (xC (.bool true))))))

theorem v_R2_law_13 {D : Ends3} {a dk : Addr} {ns : List Int} {l : List T} {n : Nat} {A B : Int} {t c d e f g : Option T} (hd : DeckOk (n + 10) l) (hf : FrOk (A, B))
    (q : ∀ l' t c d e f g h i, DeckOk n l' → D.nx [some (.sc a ns), some (.own dk l'), t, c, d, e, f, g, h, i]) :
    R2_law_13 D [some (.sc a ns), some (.own dk l), t, some (.d (.int A)), some (.d (.int B)), c, d, e, f, g] := by
  have ok : OkA [(A, B)] := FrOk.ok fun y hy => by rw [List.mem_singleton.mp hy]; exact hf
  have hlen : [(A, B)].length ≤ 1000 := show 1 ≤ 1000 by decide
  have hne : [(A, B)] ≠ [] := List.cons_ne_nil _ _
  have big : 100000 < sizeLine := by decide
  obtain ⟨f1, f2, f3, f4⟩ := hf
  have f1' : 0 < B := f1
  have f2' : B ≤ 100000000000000000000 := f2
  have f3' : -1000000000000000000000 ≤ A := f3
  have f4' : A ≤ 1000000000000000000000 := f4
  have sA : Sz 1800 A := by unfold Sz; exact Nat.lt_of_lt_of_le (show A.natAbs < 2 ^ 80 by omega) (Nat.pow_le_pow_right (by decide) (by decide))
  have szn : ∀ x : Int, 0 ≤ x → x ≤ B → Sz 1800 x := fun x h0 h1 => by unfold Sz; exact Nat.lt_of_lt_of_le (show x.natAbs < 2 ^ 80 by omega) (Nat.pow_le_pow_right (by decide) (by decide))
  refine ⟨sz 2, nd0, A, B, rfl, f1', sA, szn B (by omega) (by omega), fun pf m hm1 hm2 hm0 hml hmn _ => ⟨nvs_map _ _, ?_⟩⟩
  rw [fz_bT]
  have hmB : (m : Int) ≤ B := by
    have := (inL_pos (A := A) f1').2
    omega
  have bo := bestL_ok ok m
  generalize hl : [(A, B)] = p at *
  have ep : fz (mkTup [.d (prI (A, B))]) = asD p := by rw [← hl]; rfl
  refine ⟨nd1, n + 9, dk, l, _, rfl, hd, by decide, by decide, fun x1 l1 h10 h11 hd1 => ?_⟩
  obtain ⟨k, ek, hk1, hk2⟩ : ∃ k : Nat, (1 + x1 : Int) = (k : Nat) ∧ 1 ≤ k ∧ k ≤ 1000 := ⟨(1 + x1).toNat, by rw [Int.toNat_of_nonneg (by omega)], by omega, by omega⟩
  have bl := bestL_len p k
  refine ⟨sz 1, nd0, p, k, by rw [← ek, ← hl]; rfl, hne, hlen, ok, hk1, by omega, fun pb => ⟨nvs_map _ _, fun pc => ⟨fun j acc r => r = [some (.sc a ns), some (.own dk l1), t, some (.d (.int A)), some (.d (.int B)), some (.d (prI (A, B))), some (.d (bD p (bestL p m))), some (.d (.int (1 + x1))), none, g] ∧ acc = (((bestL p m).take j).filter (fun q => decide (q ≤ 1 + x1))).map (fun q => T.d (trD p q)), ⟨rfl, rfl⟩, fun j x acc r hx hW => ?_, fun acc r hW => ?_⟩⟩⟩
  · obtain ⟨rfl, rfl⟩ := hW
    obtain ⟨y, hy, rfl⟩ : ∃ y, (bestL p m)[j]? = some y ∧ x = trD p y := by
      rw [List.getElem?_map] at hx
      cases e : (bestL p m)[j]? with
      | none => rw [e] at hx; cases hx
      | some q => rw [e] at hx; exact ⟨q, rfl, (Option.some.inj hx).symm⟩
    have el : (((bestL p m).take j).filter (fun q => decide (q ≤ 1 + x1))).length ≤ (bestL p m).length := Nat.le_trans (List.length_filter_le ..) (by rw [List.length_take]; omega)
    refine ⟨_, rfl, fun hc => ⟨by rw [List.length_map]; omega, rfl, ?_⟩, fun hc => ⟨rfl, ?_⟩⟩
    · rw [take_succ hy, List.filter_append, List.map_append]
      have : decide (y ≤ 1 + x1) = true := hc
      rw [List.filter_cons, if_pos this]
      rfl
    · rw [take_succ hy, List.filter_append, List.map_append]
      have : ¬ decide (y ≤ 1 + x1) = true := by rw [show decide (y ≤ 1 + x1) = false from hc]; decide
      rw [List.filter_cons, if_neg this]
      simp
  · obtain ⟨rfl, hacc⟩ := hW
    rw [List.length_map, List.take_length, ek, bestL_part ok hm0 hml k] at hacc
    subst hacc
    refine ⟨nvs_map _ _, ?_⟩
    have n1 : Nest 4 (bD p (bestL p k)) := nest_bD (n := 0) hlen (by omega)
    have s1 := nest_shaped n1 (by decide)
    rw [fz_bT, show fz (T.own pc ((bestL p k).map fun q => T.d (trD p q))) = bD p (bestL p k) from fz_bT p pc _]
    refine ⟨s1, s1, fun hc => ?_, fun hc => ?_⟩
    · have h3 : (!PyData.eqv (bD p (bestL p k)) (bD p (bestL p k))) = true := hc
      rw [eqv_self n1] at h3; cases h3
    · have cut := cut_one (l := (bestL p m).map fun q => trD p q) (by
        have := (List.getElem?_eq_some_iff.mp (bo.head hm1)).1
        rw [List.length_map]; exact this)
      have gw : getI ((bestL p m).map fun q => trD p q) (-1) = some (trD p m) := getI_last (by rw [List.getLast?_map, hml]; rfl)
      refine fun pz => ⟨nvs_d _, fun i r => ∃ u8 u9, r = [some (.sc a ns), some (.own dk l1), t, some (.d (.int A)), some (.d (.int B)), some (.d (prI (A, B))), some (.d (bD p (bestL p m))), some (.d (.int (1 + x1))), u8, u9], ⟨_, _, rfl⟩, fun i x r hx hW => ?_, fun r hW => ?_⟩
      · obtain ⟨u8, u9, rfl⟩ := hW
        rw [cut, fzs_d] at hx
        obtain ⟨u, v, hu, hv, rfl⟩ := pairs_at hx
        obtain ⟨u1, uv, vn, hless, hno⟩ := bo.next i u v hu hv
        have su := (szn u (by omega) (by omega)).mono (show 1800 ≤ 1900 by decide)
        have sv := (szn v (by omega) (by omega)).mono (show 1800 ≤ 1900 by decide)
        have nx : NextIs p u (trD p v) := .inr ⟨v, lessM_pos ok hless, uv, hless, hno, sv, rfl⟩
        have sh := nest_shaped (nest_tr (n := 1) (l := p) (q := v) hlen) (by decide)
        refine ⟨rfl, _, rfl, fun _ => ⟨sz 1, _, rfl, nd0, p, u, trD p v, by rw [← hl]; rfl, hne, hlen, ok, u1, su, nx, sh, sh, fun hc => ?_, fun hc => ⟨_, _, rfl⟩⟩, fun _ => ⟨nofun, fun _ => ⟨_, _, rfl⟩⟩⟩
        have h3 : (!PyData.eqv (trD p v) (trD p v)) = true := hc
        rw [eqv_self (nest_tr (n := 1) hlen)] at h3; cases h3
      · obtain ⟨u8, u9, rfl⟩ := hW
        refine ⟨_, gw, _, rfl, fun _ => ⟨sz 1, _, gw, _, rfl, nd0, p, m, .none, by rw [← hl]; rfl, hne, hlen, ok, by omega, (szn m (by omega) (by omega)).mono (by decide), .inl ⟨hm0, rfl⟩, ⟨⟩, nofun, fun _ => q _ _ _ _ _ _ _ _ _ (hd1.mono (by omega))⟩, fun _ => ⟨nofun, fun _ => q _ _ _ _ _ _ _ _ _ (hd1.mono (by omega))⟩⟩
theorem v_law_13 (ts Q E) (h : spLaw ts Q E) : body_law_13 { nx := fun r => finOk ts r ∧ Q (.d .none) (finF ts r), rt := fun x r => finOk ts r ∧ Q x (finF ts r) } (start3 N_law_13 ts) := by
  obtain ⟨a, ns, rfl, hl, q⟩ := h
  refine ⟨nd0, a, ns, rfl, hl, fun dk l0 hd0 => ?_⟩
  refine ⟨by decide, by decide, fun i r => ∃ l t c d e f g h k, r = [some (.sc a ns), some (.own dk l), t, c, d, e, f, g, h, k] ∧ i ≤ 8 ∧ DeckOk (10000 + (8 - i) * 1000) l, ⟨l0, _, _, _, _, _, _, _, _, rfl, by decide, hd0.mono (by decide)⟩, fun i x r hx hW => ?_, fun r hW => ?_⟩
  · obtain ⟨l, t, c, d, e, f, g, h, k, rfl, hi, hd⟩ := hW
    obtain ⟨hi4, rfl⟩ := rangeI_get hx
    have hi4' : i < 8 := hi4
    refine ⟨nd1, 10000 + (7 - i) * 1000 + 900, dk, l, rfl, hd.mono (by omega), fun z l1 hz hd1 => ?_⟩
    refine ⟨rfl, nd1, 10000 + (7 - i) * 1000 + 899, dk, l1, _, rfl, hd1.mono (by omega), by decide, by decide, fun x1 l2 h10 h11 hd2 => ⟨fun hc => ?_, fun hc => ?_⟩⟩
    · have m0 := Int.emod_nonneg z.2 (show (700 : Int) ≠ 0 by decide)
      have m1 := Int.emod_lt_of_pos z.2 (show (0 : Int) < 700 by decide)
      refine ⟨(show (0 : Int) < 700 by decide), v_R2_law_13 (n := 10000 + (7 - i) * 1000) (hd2.mono (by omega)) (A := z.1) (B := 1 + z.2 % 700) ⟨by show 0 < 1 + z.2 % 700; omega, by show 1 + z.2 % 700 ≤ _; omega, hz.2.2.1, hz.2.2.2⟩ fun l' t c d e f g h k hd' => ⟨l', _, _, _, _, _, _, _, _, rfl, by omega, hd'.mono (by omega)⟩⟩
    · exact v_R2_law_13 (n := 10000 + (7 - i) * 1000) (hd2.mono (by omega)) (A := z.1) (B := z.2) hz fun l' t c d e f g h k hd' => ⟨l', _, _, _, _, _, _, _, _, rfl, by omega, hd'.mono (by omega)⟩
  · obtain ⟨l, t, c, d, e, f, g, h, k, rfl, hi, hd⟩ := hW
    exact ⟨⟨⟩, q _⟩
end L3
namespace L3
open PySem PySem.Spec PyProof.Rows L2
local macro_rules | `(tactic| wtm_at "sh") => `(tactic| conv => whnf)
theorem near_of {x b p e : Int} (hb : 0 < b) (h : x - p * b = e) (h1 : -b < 2 * e) (h2 : 2 * e ≤ b) : (near x b).1 = p := by
  have hx : x = p * b + e := by omega
  unfold near
  rcases Int.lt_or_le e 0 with h0 | h0
  · have e1 : x / b = p - 1 := by
      rw [hx, show p * b + e = (b + e) + (p - 1) * b by grind, Int.add_mul_ediv_right _ _ (by omega), Int.ediv_eq_zero_of_lt (by omega) (by omega)]
      omega
    have e2 : x - x / b * b = b + e := by rw [e1, hx]; grind
    rw [e2, e1, if_neg (by omega)]
    show p - 1 + 1 = p
    omega
  · have e1 : x / b = p := by
      rw [hx, show p * b + e = e + p * b by grind, Int.add_mul_ediv_right _ _ (by omega), Int.ediv_eq_zero_of_lt (by omega) (by omega)]
      omega
    have e2 : x - x / b * b = e := by rw [e1, hx]; grind
    rw [e2, e1, if_pos h2]
theorem near_sz {x b : Int} {n : Nat} (hb : 0 < b) (sx : Sz n x) : Sz (n + 1) (near x b).1 := by
  have s := sx.div hb
  unfold near
  split
  · exact s.mono (by omega)
  · unfold Sz at *
    rw [Nat.pow_succ]
    show (x / b + 1).natAbs < _
    have : 0 < 2 ^ n := Nat.two_pow_pos n
    omega
/-- the rows of two neighbours -/
theorem pair_rows {A B v u : Int} (hB : 0 < B) (h : Pair1 (inL A B).1 (inL A B).2 v u) : ((v * (near (u * A) B).1 - u * (near (v * A) B).1).natAbs : Int) = 1 ∧ (u * A - (near (u * A) B).1 * B = 0 ∨ decide (0 < v * A - (near (v * A) B).1 * B) ≠ decide (0 < u * A - (near (u * A) B).1 * B)) := by
  obtain ⟨s, p0, p1, be, re, hs, e1, e2, dt, r0, rb, k1, k2, k3⟩ := h
  have hg : 0 < (Int.gcd A B : Int) := by
    have : Int.gcd A B ≠ 0 := fun e => by rw [Int.gcd_eq_zero_iff] at e; omega
    omega
  have eA : A = Int.gcd A B * (inL A B).1 := (Int.mul_ediv_cancel' (Int.gcd_dvd_left ..)).symm
  have eB : B = Int.gcd A B * (inL A B).2 := (Int.mul_ediv_cancel' (Int.gcd_dvd_right ..)).symm
  have hb := (inL_pos (A := A) hB).1
  generalize (inL A B).1 = a at *
  generalize (inL A B).2 = b at *
  generalize (Int.gcd A B : Int) = g at *
  have hbe : 0 < be := by omega
  have gre : 0 ≤ g * re := Int.mul_nonneg (by omega) r0
  have gbe : 0 < g * be := Int.mul_pos hg hbe
  have g1 : 2 * (g * re) < g * b := by
    have := Int.mul_lt_mul_of_pos_left k1 hg
    have e : g * (2 * re) = 2 * (g * re) := by grind
    omega
  have g2 : 2 * (g * be) ≤ g * b := by
    have := Int.mul_le_mul_of_nonneg_left k2 (Int.le_of_lt hg)
    have e : g * (2 * be) = 2 * (g * be) := by grind
    omega
  have g3 : s = 1 → 2 * (g * be) < g * b := fun hs => by
    have := Int.mul_lt_mul_of_pos_left (k3 hs) hg
    have e : g * (2 * be) = 2 * (g * be) := by grind
    omega
  have f1 : u * A - p1 * B = s * (g * re) := by
    rw [eA, eB]
    have : u * (g * a) - p1 * (g * b) = g * (u * a - p1 * b) := by grind
    rw [this, e1]; grind
  have f2 : v * A - p0 * B = -s * (g * be) := by
    rw [eA, eB]
    have : v * (g * a) - p0 * (g * b) = g * (v * a - p0 * b) := by grind
    rw [this, e2]; grind
  have n1 : (near (u * A) B).1 = p1 := near_of hB f1 (by rcases hs with rfl | rfl <;> omega) (by rcases hs with rfl | rfl <;> omega)
  have n2 : (near (v * A) B).1 = p0 := near_of hB f2 (by
    rcases hs with rfl | rfl
    · have := g3 rfl; omega
    · omega) (by rcases hs with rfl | rfl <;> omega)
  rw [n1, n2, f1, f2]
  constructor
  · have : v * p1 - u * p0 = -s := by omega
    rw [this]
    rcases hs with rfl | rfl <;> rfl
  · rcases Int.lt_or_le 0 (g * re) with h | h
    · right
      rcases hs with rfl | rfl
      · rw [decide_eq_false (by omega), decide_eq_true (by omega)]; decide
      · rw [decide_eq_true (by omega), decide_eq_false (by omega)]; decide
    · left
      have : g * re = 0 := by omega
      rw [this]; omega
def N_law_neighbours_right : List Str := ["_law_fraction_here", "_law_one", "_law_other", "_law_above", "_law_below_here", "_law_off", "_law_far_here"]
def body_law_neighbours_right : TS3 := (xSeq (xAsg (xMove 0) (xGTup 2 (xGCons (xGName 3) (xGCons (xGName 4) xGNil))))
  (xSeq (xAsg (xD (x2 kSub (x2 kMul (x2 cIx (xView 1) (xC (.int 0))) (xView 3)) (x2 kMul (x2 cIx (x2 cIx (xView 1) (xC (.int 1))) (xC (.int 0))) (xView 4)))) (xGName 5))
  (xSeq (xAsg (xD (x2 kSub (x2 kMul (x2 cIx (xView 2) (xC (.int 0))) (xView 3)) (x2 kMul (x2 cIx (x2 cIx (xView 2) (xC (.int 1))) (xC (.int 0))) (xView 4)))) (xGName 6))
  (xSeq (xIfS (xTest (x2 kNeI (x1 cAbs (x2 kSub (x2 kMul (x2 cIx (xView 1) (xC (.int 0))) (x2 cIx (x2 cIx (xView 2) (xC (.int 1))) (xC (.int 0)))) (x2 kMul (x2 cIx (xView 2) (xC (.int 0))) (x2 cIx (x2 cIx (xView 1) (xC (.int 1))) (xC (.int 0)))))) (xC (.int 1)))) (xRet (xD (xC (.bool false)))) xNext)
  (xRet (xD (xOrV (x2 kEqI (xView 6) (xC (.int 0))) (x2 kNe (x2 kGt (xView 5) (xC (.int 0))) (x2 kGt (xView 6) (xC (.int 0)))))))))))

def sp_law_neighbours_right : Sp3 := fun ts Q _ => ∃ A B v u, ts = [.d (prI (A, B)), .d (trD [(A, B)] v), .d (trD [(A, B)] u)] ∧ 0 < B ∧ Sz 1800 A ∧ Sz 1800 B ∧ Sz 1800 v ∧ Sz 1800 u ∧ Pair1 (inL A B).1 (inL A B).2 v u ∧ Q (.d (.bool true)) ts
theorem v_law_neighbours_right (ts Q E) (h : sp_law_neighbours_right ts Q E) : body_law_neighbours_right { nx := fun r => finOk ts r ∧ Q (.d .none) (finF ts r), rt := fun x r => finOk ts r ∧ Q x (finF ts r) } (start3 N_law_neighbours_right ts) := by
  obtain ⟨A, B, v, u, rfl, hB, sA, sB, sv, su, hp, q⟩ := h
  obtain ⟨p1, p2⟩ := pair_rows hB hp
  have rv : Sz 3601 (near (v * A) B).1 := near_sz hB (sv.mul sA)
  have ru : Sz 3601 (near (u * A) B).1 := near_sz hB (su.mul sA)
  refine ⟨rfl, _, rfl, mulOk sv sA (by decide), _, rfl, _, rfl, mulOk rv sB (by decide), _, rfl, mulOk su sA (by decide), _, rfl, _, rfl, mulOk ru sB (by decide), _, rfl, _, rfl, _, rfl, mulOk sv ru (by decide), _, rfl, _, rfl, _, rfl, mulOk su rv (by decide), fun hc => ?_, fun hc => ?_⟩
  · have h3 : (!decide (((v * (near (u * A) B).1 - u * (near (v * A) B).1).natAbs : Int) = 1)) = true := hc
    rw [decide_eq_true p1] at h3
    cases h3
  · refine ⟨fun _ => ⟨⟨⟩, q⟩, fun hc2 => ⟨rfl, rfl, ?_⟩⟩
    rcases p2 with p2 | p2
    · exact absurd p2 (of_decide_eq_false hc2)
    · have e : (!PyData.eqv (.bool (decide (0 < v * A - (near (v * A) B).1 * B))) (.bool (decide (0 < u * A - (near (u * A) B).1 * B)))) = true := by
        revert p2
        cases decide (0 < v * A - (near (v * A) B).1 * B) <;> cases decide (0 < u * A - (near (u * A) B).1 * B) <;> simp [PyData.eqv]
      show finOk _ _ ∧ Q (.d (.bool (!PyData.eqv (.bool (decide (0 < v * A - (near (v * A) B).1 * B))) (.bool (decide (0 < u * A - (near (u * A) B).1 * B)))))) _
      rw [e]
      exact ⟨⟨⟩, q⟩
/-- a miss of 0 is 0 of 1 -/
theorem missL_zero {A B : Int} (hB : 0 < B) {q : Int} (h : (missL [(A, B)] q).1 = 0) : missL [(A, B)] q = (0, 1) := by
  have em : missF [(A, B)] q = if 0 < (near (q * A) B).2 then ((near (q * A) B).2, B) else (0, 1) := by
    show missS q (0, 1) (A, B) = _
    unfold missS isMore
    by_cases c : 0 < (near (q * A) B).2
    · rw [if_pos c, if_pos (decide_eq_true (by show (0 : Int) * B < (near (q * A) B).2 * 1; omega))]
    · rw [if_neg c, if_neg (by rw [decide_eq_true_eq]; show ¬ (0 : Int) * B < (near (q * A) B).2 * 1; omega)]
  unfold missL at h ⊢
  rw [em] at h ⊢
  by_cases c : 0 < (near (q * A) B).2
  · rw [if_pos c] at h
    have h : (inL (near (q * A) B).2 B).1 = 0 := h
    have d1 : (near (q * A) B).2 = Int.gcd (near (q * A) B).2 B * (inL (near (q * A) B).2 B).1 := (Int.mul_ediv_cancel' (Int.gcd_dvd_left ..)).symm
    rw [h, Int.mul_zero] at d1
    omega
  · rw [if_neg c]
    decide
/-- where one fraction's miss is 0 its number is one of the least below -/
theorem zero_at {A B : Int} (hB : 0 < B) {m : Int} (h1 : 1 ≤ m) (h2 : m ≤ (inL A B).2) (ok : OkA [(A, B)]) (h : (missL [(A, B)] m).1 = 0) : m = (inL A B).2 := by
  have hb := (inL_pos (A := A) hB).1
  have e := missL_one (A := A) hB m
  rw [h, Int.zero_mul] at e
  have hd : dst (inL A B).1 (inL A B).2 m = 0 := by
    have := (missL_ok (q := m) ok).2.1
    rcases Int.mul_eq_zero.mp e.symm with h | h
    · exact h
    · omega
  obtain ⟨t, et⟩ := dst_at (inL A B).1 (inL A B).2 m hb
  have e2 : m * (inL A B).1 = t * (inL A B).2 := by omega
  have hg : Int.gcd A B ≠ 0 := fun e => by rw [Int.gcd_eq_zero_iff] at e; omega
  have cop : Int.gcd (inL A B).1 (inL A B).2 = 1 := by
    show Int.gcd (A / Int.gcd A B) (B / Int.gcd A B) = 1
    exact Int.gcd_ediv_gcd_ediv_gcd (by omega)
  have hdvd : (inL A B).2 ∣ m := by
    have h3 : (inL A B).2 ∣ m * (inL A B).1 := ⟨t, by rw [e2, Int.mul_comm]⟩
    have h4 := Int.natAbs_dvd_natAbs.mpr h3
    rw [Int.natAbs_mul] at h4
    have h5 : Nat.Coprime (inL A B).2.natAbs (inL A B).1.natAbs := by
      show Nat.gcd _ _ = 1
      rw [Nat.gcd_comm]
      exact cop
    exact Int.natAbs_dvd_natAbs.mp (h5.dvd_of_dvd_mul_right h4)
  have := Int.le_of_dvd (by omega) hdvd
  omega
def L1_law_right_4 : TS3 := (xFor (xEnum (xView 1)) (xGTup 2 (xGCons (xGName 2) (xGCons (xGName 3) xGNil))) (xSeq (xAsg (xCall sp_law_near_1 xNoE (xArg (xFz (xTup (xCons (xMove 0) xNil))) (xArg (x2 cIx (xView 3) (xC (.int 0))) xANil))) (xGTup 2 (xGCons (xGName 4) (xGCons (xGName 5) xGNil))))
  (xSeq (xIfS (xNot (xTest (xFz (xCall (sp_law_same_1 8) xNoE (xArg (xView 3) (xArg (xFz (xTup (xCons (xD (x2 cIx (xView 3) (xC (.int 0)))) (xCons (xMove 4) (xCons (xMove 5) xNil))))) xANil)))))) (xRet (xD (xC (.bool false)))) xNext)
  (xIfS (xTest (x2 kGt (xView 2) (xC (.int 0)))) (xSeq (xAsg (xD (x2 cIx (xView 1) (x2 kSub (xView 2) (xC (.int 1))))) (xGName 6))
  (xSeq (xIfS (xOr (xTest (x2 kLe (x2 cIx (xView 3) (xC (.int 0))) (x2 cIx (xView 6) (xC (.int 0))))) (xTest (x2 kGe (x2 kMul (x2 cIx (xView 5) (xC (.int 0))) (x2 cIx (x2 cIx (xView 6) (xC (.int 2))) (xC (.int 1)))) (x2 kMul (x2 cIx (x2 cIx (xView 6) (xC (.int 2))) (xC (.int 0))) (x2 cIx (xView 5) (xC (.int 1))))))) (xRet (xD (xC (.bool false)))) xNext)
  (xIfS (xNot (xTest (xFz (xCall sp_law_neighbours_right xNoE (xArg (xView 0) (xArg (xView 6) (xArg (xView 3) xANil))))))) (xRet (xD (xC (.bool false)))) xNext))) xNext))))
def N_law_right_4 : List Str := ["_law_fraction_here", "_law_found", "_law_place", "_law_one", "_law_row", "_law_miss", "_law_ahead"]
def body_law_right_4 : TS3 := (xSeq (xAsg (xCall sp_best_of_one xNoE (xArg (xView 0) xANil)) (xGName 1))
  (xFzS 1 (xSeq (xIfS (xOr (xNot (xTest (x1 (cIsi "list") (xView 1)))) (xOr (xTest (x2 kEq (xView 1) (xFz (xLst xNil)))) (xTest (x2 kNeI (x2 cIx (x2 cIx (xView 1) (xC (.int 0))) (xC (.int 0))) (xC (.int 1)))))) (xRet (xD (xC (.bool false)))) xNext)
  (xSeq L1_law_right_4
  (xRet (xD (xAndV (x2 kEq (x2 cIx (x2 cIx (xView 1) (xNeg (xC (.int 1)))) (xC (.int 2))) (xFz (xTup (xCons (xD (xC (.int 0))) (xCons (xD (xC (.int 1))) xNil))))) (x2 kEq (x2 cIx (x2 cIx (xView 1) (xNeg (xC (.int 1)))) (xC (.int 0))) (x2 cIx (xFz (xCall sp_law_reduced xNoE (xArg (x2 cIx (xView 0) (xC (.int 0))) (xArg (x2 cIx (xView 0) (xC (.int 1))) xANil)))) (xC (.int 1)))))))))))

def sp_law_right_4 : Sp3 := fun ts Q _ => ∃ A B, ts = [.d (prI (A, B))] ∧ 0 < B ∧ Sz 1800 A ∧ Sz 1800 B ∧ Q (.d (.bool true)) ts
theorem v_law_right_4 (ts Q E) (h : sp_law_right_4 ts Q E) : body_law_right_4 { nx := fun r => finOk ts r ∧ Q (.d .none) (finF ts r), rt := fun x r => finOk ts r ∧ Q x (finF ts r) } (start3 N_law_right_4 ts) := by
  obtain ⟨A, B, rfl, hB, sA, sB, q⟩ := h
  have ok : OkA [(A, B)] := fun p hp => by rw [List.mem_singleton.mp hp]; exact ⟨hB, sA.mono (by decide), sB.mono (by decide)⟩
  have hlen : [(A, B)].length ≤ 1000 := show 1 ≤ 1000 by decide
  have hne : [(A, B)] ≠ [] := List.cons_ne_nil _ _
  have big : 100000 < sizeLine := by decide
  refine ⟨nd0, A, B, rfl, hB, sA, sB, fun pf m hm1 hm2 hm0 hml hmn hpp => ⟨nvs_map _ _, ?_⟩⟩
  rw [fz_bT]
  have hmB : (m : Int) ≤ B := by
    have := (inL_pos (A := A) hB).2
    omega
  have hmb := zero_at hB (by omega) hm2 ok hm0
  have bo := bestL_ok ok m
  have mo : ∀ x : Int, Sz 2000 (missL [(A, B)] x).1 ∧ Sz 2000 (missL [(A, B)] x).2 := fun x => ⟨(missL_ok ok).2.2.1, (missL_ok ok).2.2.2⟩
  have g0 : getI ((bestL [(A, B)] m).map fun q => trD [(A, B)] q) 0 = some (trD [(A, B)] 1) := by
    have h0 := bo.head hm1
    show ((bestL [(A, B)] m).map fun q => trD [(A, B)] q)[0]? = _
    rw [List.getElem?_map, h0]
    rfl
  have gw : getI ((bestL [(A, B)] m).map fun q => trD [(A, B)] q) (-1) = some (trD [(A, B)] m) := getI_last (by rw [List.getLast?_map, hml]; rfl)
  have nb : Nest 4 (bD [(A, B)] (bestL [(A, B)] m)) := nest_bD (n := 0) hlen (by omega)
  have hbn : bestL [(A, B)] m ≠ [] := fun e => by rw [e] at hml; cases hml
  have en : PyData.eqv (bD [(A, B)] (bestL [(A, B)] m)) (.list []) = false := eqv_nilL (by simpa using hbn)
  refine ⟨nofun, fun _ => ⟨sz 0, fun p2 => ⟨rfl, nest_shaped nb (by decide), shp_nilL, fun hc => ?_, fun _ => ⟨_, g0, _, rfl, nofun, fun _ => ?_⟩⟩⟩⟩
  · have h3 : PyData.eqv (bD [(A, B)] (bestL [(A, B)] m)) (.list []) = true := hc
    rw [en] at h3; cases h3
  · refine ⟨fun i r => ∃ a b c d e, r = [some (.d (prI (A, B))), some (.d (bD [(A, B)] (bestL [(A, B)] m))), a, b, c, d, e], ⟨_, _, _, _, _, rfl⟩, fun i x r hx hW => ?_, fun r hW => ?_⟩
    · obtain ⟨a, b, c, d, e, rfl⟩ := hW
      obtain ⟨w, hw, rfl⟩ := enumD_get hx
      obtain ⟨u, hu, rfl⟩ : ∃ u, (bestL [(A, B)] m)[i]? = some u ∧ w = trD [(A, B)] u := by
        rw [List.getElem?_map] at hw
        cases e : (bestL [(A, B)] m)[i]? with
        | none => rw [e] at hw; cases hw
        | some q => rw [e] at hw; exact ⟨q, rfl, (Option.some.inj hw).symm⟩
      obtain ⟨u1, u2⟩ := bestL_mem (List.mem_of_getElem? hu)
      have su : Sz 1800 u := sB.le (by omega)
      refine ⟨rfl, sz 1, _, rfl, nd0, [(A, B)], u, rfl, hne, hlen, ok, u1, su.mono (by decide), rfl, _, rfl, sz 3, nd0, trD [(A, B)] u, rfl, nest_tr (n := 5) hlen, nofun, fun _ => ⟨fun hc => ?_, fun _ => ⟨_, _, _, _, _, rfl⟩⟩⟩
      have hi : 0 < i := by
        have := dT hc
        omega
      obtain ⟨v, hv⟩ : ∃ v, (bestL [(A, B)] m)[i - 1]? = some v := ⟨_, List.getElem?_eq_getElem (by have := (List.getElem?_eq_some_iff.mp hu).1; omega)⟩
      have hu' : (bestL [(A, B)] m)[i - 1 + 1]? = some u := by rw [Nat.sub_add_cancel hi]; exact hu
      obtain ⟨v1, vu, un, hless, hno⟩ := bo.next (i - 1) v u hv hu'
      have gv : getI ((bestL [(A, B)] m).map fun q => trD [(A, B)] q) ((i : Nat) - 1 : Int) = some (trD [(A, B)] v) := by
        unfold getI
        rw [if_pos (by omega), List.getElem?_map, show ((i : Int) - 1).toNat = i - 1 by omega, hv]
        rfl
      refine ⟨_, gv, _, rfl, _, rfl, fun hc => ?_, fun _ => ⟨_, rfl, _, rfl, _, rfl, mulOk (mo u).1 (mo v).2 (by decide), _, rfl, _, rfl, _, rfl, mulOk (mo v).1 (mo u).2 (by decide), fun hc => ?_, fun _ => ?_⟩⟩
      · have := dT hc
        omega
      · have h1 : (missL [(A, B)] u).1 * (missL [(A, B)] v).2 < (missL [(A, B)] v).1 * (missL [(A, B)] u).2 := of_decide_eq_true hless
        have := dT hc
        omega
      · exact ⟨nd0, A, B, v, u, rfl, hB, sA, sB, sB.le (by omega), su, hpp (i - 1) v u hv hu', nofun, fun _ => ⟨_, _, _, _, _, rfl⟩⟩
    · obtain ⟨a, b, c, d, e, rfl⟩ := hW
      have e1 : PyData.eqv (prI (missL [(A, B)] m)) (.tuple [.int 0, .int 1]) = true := by
        rw [missL_zero hB hm0]
        decide +kernel
      have s1 : SeqAt.shaped (prI (missL [(A, B)] m)) = true := nest_shaped (nest_pr (n := 1) _) (by decide)
      refine ⟨_, gw, _, rfl, sz 2, s1, rfl, fun _ => ?_, fun hc => ?_⟩
      · refine ⟨_, gw, _, rfl, _, rfl, _, rfl, nd0, A, B, rfl, hB, sB.mono (by decide), _, rfl, rfl, rfl, ?_⟩
        have e2 : PyData.eqv (.int (m : Nat)) (.int (inL A B).2) = true := by rw [hmb]; simp [PyData.eqv]
        show finOk _ _ ∧ Q (.d (.bool (PyData.eqv (.int (m : Nat)) (.int (inL A B).2)))) _
        rw [e2]
        exact ⟨⟨⟩, q⟩
      · have h3 : PyData.eqv (prI (missL [(A, B)] m)) (.tuple [.int 0, .int 1]) = false := hc
        rw [e1] at h3; cases h3
end L3
namespace L3
open PySem PySem.Spec PyProof.Rows L2
local macro_rules | `(tactic| wtm_at "sh") => `(tactic| conv => whnf)
def N_law_stepped : List Str := ["_law_deck_here", "_law_above", "_law_below_here", "_law_k", "_law_steps"]
def body_law_stepped : TS3 := (xSeq (xPar 1 2 (xCons (xD (xC (.int 1))) (xCons (xD (x2 kAdd (xC (.int 1)) (xFz (xCall sp_law_take xNoE (xIo 0 (xArg (xC (.int 9)) xANil)))))) xNil)))
  (xSeq (xFor (xR1 (xFz (xCall sp_law_take xNoE (xIo 0 (xArg (xC (.int 40)) xANil))))) (xGName 3) (xSeq (xAsg (xD (x2 cIx (xFz (xLst (xCons (xD (xC (.int 1))) (xCons (xD (xC (.int 1))) (xCons (xD (x2 kAdd (xC (.int 1)) (xFz (xCall sp_law_take xNoE (xIo 0 (xArg (xC (.int 4)) xANil)))))) (xCons (xD (x2 kAdd (xC (.int 1)) (xFz (xCall sp_law_take xNoE (xIo 0 (xArg (x2 kPow (xC (.int 10)) (xC (.int 5))) xANil)))))) xNil)))))) (xFz (xCall sp_law_take xNoE (xIo 0 (xArg (xC (.int 4)) xANil)))))) (xGName 4))
  (xIfS (xTest (x2 kLt (x2 kAdd (x2 kMul (xView 4) (xView 2)) (xView 1)) (x2 kPow (xC (.int 10)) (xC (.int 19))))) (xPar 1 2 (xCons (xMove 2) (xCons (xD (x2 kAdd (x2 kMul (xView 4) (xView 2)) (xView 1))) xNil))) xNext)))
  (xRet (xTup (xCons (xMove 1) (xCons (xMove 2) xNil))))))

def sp_law_stepped : Sp3 := fun ts Q _ => ∃ n a l, ts = [.own a l] ∧ DeckOk (n + 200) l ∧ ∀ z l', 1 ≤ z.1 → z.1 ≤ 10000000000000000000 → 1 ≤ z.2 → z.2 ≤ 10000000000000000000 → DeckOk n l' → Q (.d (prI z)) [.own a l']
theorem v_law_stepped (ts Q E) (h : sp_law_stepped ts Q E) : body_law_stepped { nx := fun r => finOk ts r ∧ Q (.d .none) (finF ts r), rt := fun x r => finOk ts r ∧ Q x (finF ts r) } (start3 N_law_stepped ts) := by
  obtain ⟨n, a, l, rfl, hd, q⟩ := h
  have p5 : CPow 10 5 := ⟨by decide, by decide, by decide⟩
  have p19 : CPow 10 19 := ⟨by decide, by decide, by decide⟩
  refine ⟨nd1, n + 199, a, l, _, rfl, hd, by decide, by decide, fun x1 l1 h10 h11 hd1 => ⟨nd1, n + 198, a, l1, _, rfl, hd1, by decide, by decide, fun x2 l2 h20 h21 hd2 => ?_⟩⟩
  refine ⟨by omega, by omega, fun i r => ∃ l' u v b c, r = [some (.own a l'), some (.d (.int u)), some (.d (.int v)), b, c] ∧ 1 ≤ u ∧ u ≤ 10000000000000000000 ∧ 1 ≤ v ∧ v ≤ 10000000000000000000 ∧ i ≤ 40 ∧ DeckOk (n + 4 * (40 - i)) l', ⟨l2, _, _, _, _, rfl, by decide, by decide, by show 1 ≤ 1 + x1; omega, by show 1 + x1 ≤ _; omega, by decide, hd2.mono (by omega)⟩, fun i x r hx hW => ?_, fun r hW => ?_⟩
  · obtain ⟨l', u, v, b, c, rfl, u1, u2, v1, v2, hi, hd'⟩ := hW
    obtain ⟨hi2, rfl⟩ := rangeI_get hx
    have hi3 : i < 40 := by omega
    refine ⟨nd1, n + 4 * (40 - (i + 1)) + 3, a, l', _, rfl, hd'.mono (by omega), by decide, by decide, fun x3 l3 h30 h31 hd3 => ⟨p5, nd1, n + 4 * (40 - (i + 1)) + 2, a, l3, _, rfl, hd3, by decide, by decide, fun x4 l4 h40 h41 hd4 => ⟨sz 4, fun p4 => ⟨rfl, nd1, n + 4 * (40 - (i + 1)) + 1, a, l4, _, rfl, hd4, by decide, by decide, fun x5 l5 h50 h51 hd5 => ?_⟩⟩⟩⟩
    have h41' : x4 < 100000 := h41
    obtain ⟨s, gs, _, ms⟩ := getI_of (l := [PyData.int 1, .int 1, .int (1 + x3), .int (1 + x4)]) (i := x5) h50 (by simpa using h51)
    obtain ⟨s, rfl, hs1, hs2⟩ : ∃ s' : Int, s = .int s' ∧ 1 ≤ s' ∧ s' ≤ 100000 := by
      simp only [List.mem_cons, List.not_mem_nil, or_false] at ms
      rcases ms with rfl | rfl | rfl | rfl
      · exact ⟨_, rfl, by decide, by decide⟩
      · exact ⟨_, rfl, by decide, by decide⟩
      · exact ⟨_, rfl, by omega, by omega⟩
      · exact ⟨_, rfl, by omega, by omega⟩
    refine ⟨_, gs, mulOkL (by omega) (by omega), p19, fun hc => ?_, fun hc => ?_⟩
    · have h3 : s * v + u < 10 ^ 19 := dT hc
      have h4 : v ≤ s * v := by
        have := Int.mul_le_mul_of_nonneg_right hs1 (show 0 ≤ v by omega)
        omega
      exact ⟨mulOkL (by omega) (by omega), l5, _, _, _, _, rfl, v1, v2, by omega, by omega, by omega, hd5.mono (by omega)⟩
    · exact ⟨l5, _, _, _, _, rfl, u1, u2, v1, v2, by omega, hd5.mono (by omega)⟩
  · obtain ⟨l', u, v, b, c, rfl, u1, u2, v1, v2, hi, hd'⟩ := hW
    exact ⟨sz 2, ⟨rfl, ⟨⟩⟩, q (u, v) l' u1 u2 v1 v2 (hd'.mono (by omega))⟩
def R1_law_11 : TS3 := (xIfS (xOr (xNot (xTest (xFz (xCall sp_law_right_4 xNoE (xArg (xView 3) xANil))))) (xTest (x2 kNe (xFz (xCall sp_best_of_one xNoE (xArg (xView 3) xANil))) (xFz (xCall sp_best_of_one xNoE (xArg (xView 3) xANil)))))) (xRet (xD (xC (.bool false)))) xNext)
def L2_law_11 : TS3 := (xFor (xR1 (xC (.int 12))) (xGName 2) (xSeq (xAsg (xCall sp_law_fraction_1 xNoE (xIo 1 xANil)) (xGName 3))
  (xSeq (xIfS (xTest (x2 kEqI (x2 kMod (xView 2) (xC (.int 2))) (xC (.int 1)))) (xSeq (xAsg (xCall sp_law_stepped xNoE (xIo 1 xANil)) (xGTup 2 (xGCons (xGName 4) (xGCons (xGName 5) xGNil))))
  (xSeq (xAsg (xD (x2 cIx (xFz (xLst (xCons (xD (xC (.int 1))) (xCons (xD (xNeg (xC (.int 1)))) xNil)))) (xFz (xCall sp_law_take xNoE (xIo 1 (xArg (xC (.int 2)) xANil)))))) (xGName 6))
  (xAsg (xTup (xCons (xD (x2 kMul (xView 6) (x2 kAdd (xView 4) (x2 kMul (xView 5) (xFz (xCall sp_law_take xNoE (xIo 1 (xArg (xC (.int 9)) xANil)))))))) (xCons (xMove 5) xNil))) (xGName 3)))) xNext)
  R1_law_11)))
def N_law_11 : List Str := ["_law_script", "_law_deck_here", "_law_turn", "_law_fraction_here", "_law_above", "_law_below_here", "_law_sign"]
def body_law_11 : TS3 := (xSeq (xAsg (xCall sp_law_deck xNoE (xArg (xView 0) xANil)) (xGName 1))
  (xSeq L2_law_11
  (xRet (xD (xC (.bool true))))))

theorem v_R1_law_11 {D : Ends3} {A B : Int} {a dk : Addr} {ns : List Int} {l : List T} {t c d e : Option T} (hB : 0 < B) (sA : Sz 1800 A) (sB : Sz 1800 B)
    (q : D.nx [some (.sc a ns), some (.own dk l), t, some (.d (prI (A, B))), c, d, e]) : R1_law_11 D [some (.sc a ns), some (.own dk l), t, some (.d (prI (A, B))), c, d, e] := by
  have ok : OkA [(A, B)] := fun p hp => by rw [List.mem_singleton.mp hp]; exact ⟨hB, sA.mono (by decide), sB.mono (by decide)⟩
  have hlen : [(A, B)].length ≤ 1000 := show 1 ≤ 1000 by decide
  have big : 100000 < sizeLine := by decide
  refine ⟨nd0, A, B, rfl, hB, sA, sB, nofun, fun _ => ⟨nd0, A, B, rfl, hB, sA, sB, fun pf m hm1 hm2 hm0 hml hmn _ => ⟨nvs_map _ _, nd0, A, B, rfl, hB, sA, sB, fun pf2 m2 km1 km2 km0 kml kmn _ => ⟨nvs_map _ _, ?_⟩⟩⟩⟩
  have e1 := zero_at hB (by omega) hm2 ok hm0
  have e2 := zero_at hB (by omega) km2 ok km0
  obtain rfl : m2 = m := by omega
  have nb : Nest 4 (bD [(A, B)] (bestL [(A, B)] m2)) := nest_bD (n := 0) hlen (by omega)
  have sh := nest_shaped nb (by decide)
  rw [fz_bT, fz_bT]
  refine ⟨sh, sh, fun hc => ?_, fun _ => q⟩
  have h3 : (!PyData.eqv (bD [(A, B)] (bestL [(A, B)] m2)) (bD [(A, B)] (bestL [(A, B)] m2))) = true := hc
  rw [eqv_self nb] at h3; cases h3
theorem v_law_11 (ts Q E) (h : spLaw ts Q E) : body_law_11 { nx := fun r => finOk ts r ∧ Q (.d .none) (finF ts r), rt := fun x r => finOk ts r ∧ Q x (finF ts r) } (start3 N_law_11 ts) := by
  obtain ⟨a, ns, rfl, hl, q⟩ := h
  have szb : ∀ x : Int, -1000000000000000000000 ≤ x → x ≤ 1000000000000000000000 → Sz 1800 x := fun x h0 h1 => by unfold Sz; exact Nat.lt_of_lt_of_le (show x.natAbs < 2 ^ 80 by omega) (Nat.pow_le_pow_right (by decide) (by decide))
  refine ⟨nd0, a, ns, rfl, hl, fun dk l0 hd0 => ?_⟩
  refine ⟨by decide, by decide, fun i r => ∃ l t b c d e, r = [some (.sc a ns), some (.own dk l), t, b, c, d, e] ∧ i ≤ 12 ∧ DeckOk (10000 + (12 - i) * 1000) l, ⟨l0, _, _, _, _, _, rfl, by decide, hd0.mono (by decide)⟩, fun i x r hx hW => ?_, fun r hW => ?_⟩
  · obtain ⟨l, t, b, c, d, e, rfl, hi, hd⟩ := hW
    obtain ⟨hi4, rfl⟩ := rangeI_get hx
    have hi4' : i < 12 := hi4
    refine ⟨nd1, 10000 + (11 - i) * 1000 + 900, dk, l, rfl, hd.mono (by omega), fun z l1 hz hd1 => ?_⟩
    obtain ⟨z1, z2, z3, z4⟩ := hz
    refine ⟨(show (0 : Int) < 2 by decide), fun hc => ?_, fun hc => v_R1_law_11 (A := z.1) (B := z.2) z1 (szb _ (by omega) (by omega)) (szb _ (by omega) (by omega)) ⟨l1, _, _, _, _, _, rfl, by omega, hd1.mono (by omega)⟩⟩
    refine ⟨nd1, 10000 + (11 - i) * 1000 + 700, dk, l1, rfl, hd1.mono (by omega), fun y l2 y1 y2 y3 y4 hd2 => ⟨rfl, sz 2, fun p2 => ⟨rfl, nd1, 10000 + (11 - i) * 1000 + 699, dk, l2, _, rfl, hd2.mono (by omega), by decide, by decide, fun x3 l3 h30 h31 hd3 => ?_⟩⟩⟩
    obtain ⟨s, gs, _, ms⟩ := getI_of (l := [PyData.int 1, .int (-1)]) (i := x3) h30 (by simpa using h31)
    obtain ⟨s, rfl, hs⟩ : ∃ s' : Int, s = .int s' ∧ (s' = 1 ∨ s' = -1) := by
      simp only [List.mem_cons, List.not_mem_nil, or_false] at ms
      rcases ms with rfl | rfl
      · exact ⟨_, rfl, .inl rfl⟩
      · exact ⟨_, rfl, .inr rfl⟩
    refine ⟨_, gs, nd1, 10000 + (11 - i) * 1000 + 698, dk, l3, _, rfl, hd3.mono (by omega), by decide, by decide, fun x4 l4 h40 h41 hd4 => ?_⟩
    have m1 : y.2 * x4 ≤ 10000000000000000000 * x4 := Int.mul_le_mul_of_nonneg_right y4 h40
    have m2 : 0 ≤ y.2 * x4 := Int.mul_nonneg (by omega) h40
    refine ⟨mulOkR (by omega) (by omega), mulOkL (by rcases hs with rfl | rfl <;> decide) (by rcases hs with rfl | rfl <;> decide), sz 2, ?_⟩
    exact v_R1_law_11 (A := s * (y.1 + y.2 * x4)) (B := y.2) (by omega) (szb _ (by rcases hs with rfl | rfl <;> omega) (by rcases hs with rfl | rfl <;> omega)) (szb _ (by omega) (by omega)) ⟨l4, _, _, _, _, _, rfl, by omega, hd4.mono (by omega)⟩
  · obtain ⟨l, t, b, c, d, e, rfl, hi, hd⟩ := hW
    exact ⟨⟨⟩, q _⟩
end L3
namespace L3
open PySem PySem.Spec PyProof.Rows L2 TL
local macro_rules | `(tactic| wtm_at "sh") => `(tactic| conv => whnf)
/-! ## numbers as texts -/
abbrev iS (i : Int) : Str := Str.ofString (toString i)
def signL (i : Int) : List Nat := if i < 0 then 45 :: numL i.natAbs else numL i.natAbs
theorem tl_iS (i : Int) : tl (iS i) = signL i := by
  unfold signL
  cases i with
  | ofNat n =>
    rw [if_neg (by show ¬ ((n : Nat) : Int) < 0; omega)]
    exact tl_num n
  | negSucc m =>
    rw [if_pos (by omega)]
    have e1 : toString (Int.negSucc m) = "-" ++ toString (((m + 1 : Nat) : Nat) : Int) := rfl
    show tl (Str.ofString (toString (Int.negSucc m))) = 45 :: numL (m + 1)
    rw [e1, tl_ofString, String.toList_append, List.map_append, ← tl_ofString (toString (((m + 1 : Nat) : Nat) : Int)), tl_num]
    rfl
theorem numL_sign {n c : Nat} (h : c ∈ numL n) : 48 ≤ c ∧ c ≤ 57 := by
  rcases Nat.lt_or_ge c 48 with h1 | h1
  · exact absurd h (numL_free (.inl h1))
  · rcases Nat.lt_or_ge 57 c with h2 | h2
    · exact absurd h (numL_free (.inr h2))
    · exact ⟨h1, h2⟩
theorem signL_sign {i : Int} {c : Nat} (h : c ∈ signL i) : c = 45 ∨ (48 ≤ c ∧ c ≤ 57) := by
  unfold signL at h
  split at h
  · rcases List.mem_cons.mp h with h | h
    · exact .inl h
    · exact .inr (numL_sign h)
  · exact .inr (numL_sign h)
theorem signL_len {i : Int} (h : i.natAbs < 10 ^ 100) : (signL i).length ≤ 101 := by
  have := numL_len (n := i.natAbs) (k := 100) (by decide) h
  unfold signL
  split
  · rw [List.length_cons]; omega
  · omega
theorem signL_ne (i : Int) : signL i ≠ [] := by
  unfold signL
  split
  · simp
  · exact numL_ne _
theorem numL_head {n : Nat} {r : List Nat} : numL n = 48 :: r → n = 0 := by
  induction n using Nat.strongRecOn generalizing r with
  | _ n ih =>
    intro h
    rcases Nat.lt_or_ge n 10 with h1 | h1
    · rw [numL_lt h1] at h
      have := (List.cons.inj h).1
      omega
    · rw [numL_step h1] at h
      cases e : numL (n / 10) with
      | nil => exact absurd e (numL_ne _)
      | cons c r' =>
        rw [e] at h
        have hc : c = 48 := (List.cons.inj h).1
        have := ih (n / 10) (by omega) (r := r') (by rw [e, hc])
        omega
theorem get_fun {α β : Type} {f : α → β} {l : List α} {i : Nat} {x : β} (h : (l.map f)[i]? = some x) : ∃ c, l[i]? = some c ∧ x = f c := by
  rw [List.getElem?_map] at h
  cases e : l[i]? with
  | none => rw [e] at h; cases h
  | some c => rw [e] at h; exact ⟨c, rfl, (Option.some.inj h).symm⟩
def frS (p : Int × Int) : Str := iS p.1 ++ "/" ++ iS p.2
def askS (l : List (Int × Int)) : Str := Txt.join " " (l.map frS)
/-- numbers of no more than a hundred figures -/
def OkT (p : Int × Int) : Prop := 0 < p.2 ∧ p.1.natAbs < 10 ^ 100 ∧ p.2.natAbs < 10 ^ 100
theorem tl_frS (p : Int × Int) : tl (frS p) = signL p.1 ++ (47 :: signL p.2) := by
  unfold frS
  rw [tl_append, tl_append, tl_iS, tl_iS]
  show signL p.1 ++ [47] ++ signL p.2 = _
  simp
theorem frS_split (p : Int × Int) : Txt.split (frS p) "/" = [iS p.1, iS p.2] := by
  have e : frS p = Txt.join "/" [iS p.1, iS p.2] := by rw [join_eq]; rfl
  rw [e]
  refine split_join (s := 47) (S := []) rfl (by decide +kernel) (by simp) fun q hq => ?_
  have : ∀ i : Int, 47 ∉ tl (iS i) := fun i h => by
    rw [tl_iS] at h
    rcases signL_sign h with h | h <;> omega
  simp only [List.mem_cons, List.not_mem_nil, or_false] at hq
  rcases hq with rfl | rfl
  · exact this _
  · exact this _
theorem frS_sign {p : Int × Int} {c : Nat} (h : c ∈ tl (frS p)) : c = 45 ∨ c = 47 ∨ (48 ≤ c ∧ c ≤ 57) := by
  rw [tl_frS] at h
  rcases List.mem_append.mp h with h | h
  · rcases signL_sign h with h | h
    · exact .inl h
    · exact .inr (.inr h)
  · rcases List.mem_cons.mp h with h | h
    · exact .inr (.inl h)
    · rcases signL_sign h with h | h
      · exact .inl h
      · exact .inr (.inr h)
theorem askS_split {l : List (Int × Int)} (h : l ≠ []) : Txt.split (askS l) " " = l.map frS := by
  refine split_join (s := 32) (S := []) rfl (by decide +kernel) (by simpa using h) fun q hq => ?_
  obtain ⟨p, _, rfl⟩ := List.mem_map.mp hq
  intro h
  rcases frS_sign h with h | h | h <;> omega
theorem frS_len {p : Int × Int} (h : OkT p) : (tl (frS p)).length ≤ 203 := by
  rw [tl_frS, List.length_append, List.length_cons]
  have := signL_len h.2.1
  have := signL_len h.2.2
  omega
theorem joinL_sign {ps : List (List Nat)} {c : Nat} (h : c ∈ joinL [32] ps) : c = 32 ∨ ∃ p ∈ ps, c ∈ p := by
  induction ps with
  | nil => simp [joinL] at h
  | cons p r ih =>
    cases r with
    | nil => exact .inr ⟨p, by simp, h⟩
    | cons q r =>
      have h2 : c ∈ p ++ ([32] ++ joinL [32] (q :: r)) := h
      rcases List.mem_append.mp h2 with h2 | h2
      · exact .inr ⟨p, by simp, h2⟩
      · rcases List.mem_append.mp h2 with h2 | h2
        · exact .inl (by simpa using h2)
        · rcases ih h2 with h3 | ⟨z, hz, h3⟩
          · exact .inl h3
          · exact .inr ⟨z, List.mem_cons_of_mem _ hz, h3⟩
theorem joinL_len : ∀ (ps : List (List Nat)), (joinL [32] ps).length ≤ (ps.map (·.length)).sum + ps.length
  | [] => by simp [joinL]
  | [p] => by simp [joinL]
  | p :: q :: r => by
    have := joinL_len (q :: r)
    show (p ++ ([32] ++ joinL [32] (q :: r))).length ≤ _
    rw [List.length_append, List.length_append, List.map_cons, List.sum_cons, List.length_cons]
    simp only [List.length_cons, List.length_nil] at *
    omega
theorem tl_askS (l : List (Int × Int)) : tl (askS l) = joinL [32] (l.map fun p => tl (frS p)) := by
  unfold askS
  rw [join_eq, tl_join, List.map_map]
  rfl
theorem askS_sign {l : List (Int × Int)} {c : Nat} (h : c ∈ tl (askS l)) : c < 58 := by
  rw [tl_askS] at h
  rcases joinL_sign h with h | ⟨p, hp, h⟩
  · omega
  · obtain ⟨z, _, rfl⟩ := List.mem_map.mp hp
    rcases frS_sign h with h | h | h <;> omega
theorem shp_str {x : Str} (h : ∀ c ∈ tl x, c < 1114112) : SeqAt.shaped (.str x) = true := by
  unfold SeqAt.shaped
  rw [Bool.and_eq_true]
  refine ⟨?_, by simp [PyData.depth]⟩
  have : PyData.strOk x = true := by
    unfold PyData.strOk
    rw [Array.all_eq_true]
    intro i hi
    exact decide_eq_true (h _ (by simp [tl]))
  simpa [PyData.canLay0] using this
theorem eqv_strF {x y : Str} (h : x ≠ y) : PyData.eqv (.str x) (.str y) = false := by
  simp [PyData.eqv, h]
theorem eqv_strT (x : Str) : PyData.eqv (.str x) (.str x) = true := by
  simp [PyData.eqv]
def N_figures_read : List Str := ["word", "sign"]
def body_figures_read : TS3 := (xSeq (xIfS (xOr (xTest (x2 kEq (xView 0) (xC (.str "")))) (xTest (x2 kNe (xFz (xLc (xStrI (xView 0)) (xGName 1) (xTest (x2 kNotInS (xView 1) (xC (.str "0123456789")))) (xMove 1) [1])) (xFz (xLst xNil))))) xNever xNext)
  (xSeq (xIfS (xAnd (xTest (x2 kEq (x2 cIx (xView 0) (xC (.int 0))) (xC (.str "0")))) (xTest (x2 kNe (xView 0) (xC (.str "0"))))) xNever xNext)
  (xRet (xD (x1 cInt (xView 0))))))

def sp_figures_read : Sp3 := fun ts Q _ => ∃ w n, ts = [.d (.str w)] ∧ tl w = numL n ∧ n < 10 ^ 100 ∧ Q (.d (.int (n : Nat))) ts
theorem v_figures_read (ts Q E) (h : sp_figures_read ts Q E) : body_figures_read { nx := fun r => finOk ts r ∧ Q (.d .none) (finF ts r), rt := fun x r => finOk ts r ∧ Q x (finF ts r) } (start3 N_figures_read ts) := by
  obtain ⟨w, n, rfl, hw, hn, q⟩ := h
  have hb : 1000 < sizeLine := by decide
  have hlen : (tl w).length ≤ 100 := by rw [hw]; exact numL_len (by decide) hn
  have sw : SeqAt.shaped (.str w) = true := shp_str fun c hc => by
    rw [hw] at hc
    have := numL_sign hc
    omega
  have s0 : ∀ z : String, SeqAt.shaped (.str (Str.ofString z)) = true ∨ True := fun _ => .inr ⟨⟩
  have hne : w ≠ "" := fun e => by
    have := numL_ne n
    rw [← hw, e] at this
    exact this rfl
  have ew : w = Str.ofString (toString ((n : Nat) : Int)) := ext_tl (by rw [hw, tl_num])
  refine ⟨sw, by decide +kernel, fun hc => ?_, fun _ => fun p => ⟨fun i acc r => r = [some (.d (.str w)), none] ∧ acc = [], ⟨rfl, rfl⟩, fun i x acc r hx hW => ?_, fun acc r hW => ?_⟩⟩
  · have h3 : PyData.eqv (.str w) (.str "") = true := hc
    rw [eqv_strF hne] at h3; cases h3
  · obtain ⟨rfl, rfl⟩ := hW
    obtain ⟨c, hc, rfl⟩ := get_fun hx
    have hm : c ∈ numL n := by rw [← hw]; exact List.mem_of_getElem? hc
    have := numL_sign hm
    have hd : decide (c ∈ ("0123456789" : Str).cps.toList) = true := by
      have e : ("0123456789" : Str).cps.toList = [48, 49, 50, 51, 52, 53, 54, 55, 56, 57] := by decide +kernel
      rw [e]
      refine decide_eq_true ?_
      have : c = 48 ∨ c = 49 ∨ c = 50 ∨ c = 51 ∨ c = 52 ∨ c = 53 ∨ c = 54 ∨ c = 55 ∨ c = 56 ∨ c = 57 := by omega
      simp only [List.mem_cons, List.not_mem_nil, or_false]
      exact this
    refine ⟨c, rfl, fun hc2 => ?_, fun _ => ⟨rfl, rfl⟩⟩
    have h3 : (!decide (c ∈ ("0123456789" : Str).cps.toList)) = true := hc2
    rw [hd] at h3; cases h3
  · obtain ⟨rfl, rfl⟩ := hW
    refine ⟨rfl, sz 0, fun p2 => ⟨rfl, shp_nilL, shp_nilL, nofun, fun _ => ?_⟩⟩
    obtain ⟨c, r, ec⟩ : ∃ c r, tl w = c :: r := by
      cases e : tl w with
      | nil => rw [hw] at e; exact absurd e (numL_ne n)
      | cons c r => exact ⟨c, r, rfl⟩
    have g0 : getI w.cps.toList 0 = some c := by
      show (tl w)[0]? = some c
      rw [ec]; rfl
    have hl2 : w.length ≤ 100 := by rw [len_tl]; exact hlen
    have hc57 : c < 1114112 := by
      have hm : c ∈ numL n := by rw [← hw, ec]; simp
      have := numL_sign hm
      omega
    have sc : SeqAt.shaped (.str ⟨#[c]⟩) = true := shp_str fun x hx => by
      have : x = c := by simpa using hx
      omega
    have fin : ∀ r', r' = [some (T.d (.str w)), none] → True := fun _ _ => ⟨⟩
    have val : PySem.intText? w = some (n : Int) := by rw [ew]; exact int_num (by rw [← hw]; omega)
    refine ⟨by omega, c, g0, sc, by decide +kernel, fun hc => ⟨sw, by decide +kernel, fun hc2 => ?_, fun _ => ⟨n, val, by omega, ⟨⟩, q⟩⟩, fun _ => ⟨nofun, fun _ => ⟨n, val, by omega, ⟨⟩, q⟩⟩⟩
    have h3 : PyData.eqv (.str ⟨#[c]⟩) (.str "0") = true := hc
    have hc0 : c = 48 := Classical.byContradiction fun hne => by
      have : (⟨#[c]⟩ : Str) ≠ "0" := fun e => by
        have h4 : tl (⟨#[c]⟩ : Str) = tl "0" := by rw [e]
        have h5 : [c] = [48] := h4
        exact hne (List.cons.inj h5).1
      rw [eqv_strF this] at h3; cases h3
    have hn0 : n = 0 := numL_head (r := r) (by rw [← hw, ec, hc0])
    have hw0 : w = "0" := ext_tl (by rw [hw, hn0]; decide +kernel)
    have h4 : (!PyData.eqv (.str w) (.str "0")) = true := hc2
    rw [hw0, eqv_strT] at h4; cases h4
end L3
namespace L3
open PySem PySem.Spec PyProof.Rows L2 TL
local macro_rules | `(tactic| wtm_at "sh") => `(tactic| conv => whnf)
theorem iS_shp (i : Int) : SeqAt.shaped (.str (iS i)) = true := shp_str fun c hc => by
  rw [tl_iS] at hc
  rcases signL_sign hc with h | h <;> omega
theorem tl_cut (z : Str) (lo hi : Option Int) : tl (cutS z lo hi) = cutL (tl z) lo hi := by
  unfold cutS cutL
  rw [len_tl z]
theorem cutL_head {α : Type} {l : List α} {c : α} {r : List α} (h : l = c :: r) : cutL l none (some 1) = [c] := by
  subst h
  unfold cutL
  have e : HT.sIx (c :: r).length (c :: r).length (some (1 : Int)) = 1 := by
    show HT.sIx (c :: r).length (c :: r).length (some ((1 : Nat) : Int)) = 1
    rw [HT.sIx_nat, List.length_cons]
    omega
  rw [e, HT.sIx_none]
  rfl
def N_fraction_read : List Str := ["word", "parts", "sign"]
def body_fraction_read : TS3 := (xSeq (xAsg (xSplit (xView 0) (xC (.str "/"))) (xGName 1))
  (xSeq (xIfS (xOr (xTest (x2 kNeI (x1 cLen (xView 1)) (xC (.int 2)))) (xTest (x2 kEq (x2 cIx (xView 1) (xC (.int 0))) (xC (.str "-0"))))) xNever xNext)
  (xSeq (xAsg (xD (xC (.int 1))) (xGName 2))
  (xSeq (xIfS (xTest (x2 kEq (xFz (xSl (x2 cIx (xView 1) (xC (.int 0))) xNo (xSome (xC (.int 1))))) (xC (.str "-")))) (xSeq (xAsg (xD (xNeg (xC (.int 1)))) (xGName 2))
  (xAsg (xSl (x2 cIx (xView 1) (xC (.int 0))) (xSome (xC (.int 1))) xNo) (xGSub 1 (xC (.int 0))))) xNext)
  (xRet (xTup (xCons (xD (x2 kMul (xView 2) (xFz (xCall sp_figures_read xNoE (xArg (x2 cIx (xView 1) (xC (.int 0))) xANil))))) (xCons (xCall sp_figures_read xNoE (xArg (x2 cIx (xView 1) (xC (.int 1))) xANil)) xNil))))))))

def sp_fraction_read : Sp3 := fun ts Q _ => ∃ p, ts = [.d (.str (frS p))] ∧ OkT p ∧ Q (.d (prI p)) ts
theorem v_fraction_read (ts Q E) (h : sp_fraction_read ts Q E) : body_fraction_read { nx := fun r => finOk ts r ∧ Q (.d .none) (finF ts r), rt := fun x r => finOk ts r ∧ Q x (finF ts r) } (start3 N_fraction_read ts) := by
  obtain ⟨p, rfl, hp, q⟩ := h
  have hb : 1000 < sizeLine := by decide
  have hfl := frS_len hp
  have hl1 := signL_len hp.2.1
  have hl2 : (frS p).length ≤ 203 := by rw [len_tl]; exact hfl
  refine ⟨by decide +kernel, by omega, fun pl => ?_⟩
  rw [frS_split]
  have hneg0 : iS p.1 ≠ "-0" := fun e => by
    have h1 : signL p.1 = [45, 48] := by rw [← tl_iS, e]; decide +kernel
    unfold signL at h1
    split at h1
    · have := numL_head (n := p.1.natAbs) (r := []) (List.cons.inj h1).2
      omega
    · have h2 : 45 ∈ numL p.1.natAbs := by rw [h1]; simp
      have := numL_sign h2
      omega
  have sp1 := iS_shp p.1
  refine ⟨nofun, fun _ => ⟨rfl, _, rfl, sp1, by decide +kernel, fun hc => ?_, fun _ => ?_⟩⟩
  · have h3 : PyData.eqv (.str (iS p.1)) (.str "-0") = true := hc
    rw [eqv_strF hneg0] at h3; cases h3
  · have hl3 : (iS p.1).length ≤ 101 := by rw [len_tl, tl_iS]; exact hl1
    have sc : SeqAt.shaped (.str (cutS (iS p.1) none (some 1))) = true := shp_str fun c hc => by
      rw [tl_cut] at hc
      have h2 : c ∈ tl (iS p.1) := by
        unfold cutL at hc
        exact List.mem_of_mem_drop (List.mem_of_mem_take hc)
      rw [tl_iS] at h2
      rcases signL_sign h2 with h | h <;> omega
    have bin : tl (iS p.2) = numL p.2.natAbs := by
      rw [tl_iS]; unfold signL; rw [if_neg (by have := hp.1; omega)]
    have eb : ((p.2.natAbs : Nat) : Int) = p.2 := by have := hp.1; omega
    refine ⟨rfl, _, rfl, by omega, sc, by decide +kernel, fun hc => ?_, fun hc => ?_⟩
    · have h3 : PyData.eqv (.str (cutS (iS p.1) none (some 1))) (.str "-") = true := hc
      have hlt : p.1 < 0 := Classical.byContradiction fun hge => by
        have h4 : cutS (iS p.1) none (some 1) ≠ "-" := fun e => by
          cases e2 : signL p.1 with
          | nil => exact absurd e2 (signL_ne _)
          | cons c r =>
            have h5 : tl (cutS (iS p.1) none (some 1)) = [c] := by rw [tl_cut, tl_iS]; exact cutL_head e2
            rw [e] at h5
            have h6 : [45] = [c] := h5
            have h7 : c ∈ numL p.1.natAbs := by
              have : signL p.1 = numL p.1.natAbs := by unfold signL; rw [if_neg hge]
              rw [← this, e2]; simp
            have := numL_sign h7
            have := (List.cons.inj h6).1
            omega
        rw [eqv_strF h4] at h3; cases h3
      have es : signL p.1 = 45 :: numL p.1.natAbs := by unfold signL; rw [if_pos hlt]
      have ecut : tl (cutS (iS p.1) (some 1) none) = numL p.1.natAbs := by
        rw [tl_cut, tl_iS, es, cut_one (by simp)]
        rfl
      have e1 : (-1 : Int) * ((p.1.natAbs : Nat) : Int) = p.1 := by omega
      refine ⟨rfl, _, rfl, by omega, _, setI_in _ (by decide) (by show (0 : Int) < 2; decide), rfl, _, rfl, nd0, _, p.1.natAbs, rfl, ecut, hp.2.1, mulOkL (by decide) (by decide), rfl, _, rfl, nd0, _, p.2.natAbs, rfl, bin, hp.2.2, sz 2, ⟨⟩, ?_⟩
      show Q (.d (.tuple [.int (-1 * ((p.1.natAbs : Nat) : Int)), .int ((p.2.natAbs : Nat) : Int)])) _
      rw [e1, eb]
      exact q
    · have h3 : PyData.eqv (.str (cutS (iS p.1) none (some 1))) (.str "-") = false := hc
      have hge : ¬ p.1 < 0 := fun hlt => by
        have es : signL p.1 = 45 :: numL p.1.natAbs := by unfold signL; rw [if_pos hlt]
        have h4 : cutS (iS p.1) none (some 1) = "-" := ext_tl (by
          rw [tl_cut, tl_iS, cutL_head es]
          decide +kernel)
        rw [h4, eqv_strT] at h3; cases h3
      have ain : tl (iS p.1) = numL p.1.natAbs := by
        rw [tl_iS]; unfold signL; rw [if_neg hge]
      have e1 : (1 : Int) * ((p.1.natAbs : Nat) : Int) = p.1 := by omega
      refine ⟨rfl, _, rfl, nd0, _, p.1.natAbs, rfl, ain, hp.2.1, mulOkL (by decide) (by decide), rfl, _, rfl, nd0, _, p.2.natAbs, rfl, bin, hp.2.2, sz 2, ⟨⟩, ?_⟩
      show Q (.d (.tuple [.int (1 * ((p.1.natAbs : Nat) : Int)), .int ((p.2.natAbs : Nat) : Int)])) _
      rw [e1, eb]
      exact q
theorem askS_len {l : List (Int × Int)} (h : ∀ p ∈ l, OkT p) : (tl (askS l)).length ≤ 204 * l.length := by
  rw [tl_askS]
  have h1 := joinL_len (l.map fun p => tl (frS p))
  have h2 : ∀ m : List (Int × Int), (∀ p ∈ m, OkT p) → (((m.map fun p => tl (frS p)).map (·.length)).sum) ≤ 203 * m.length := by
    intro m
    induction m with
    | nil => intro _; simp
    | cons p m ih =>
      intro hm
      have := frS_len (hm p (by simp))
      have := ih fun z hz => hm z (List.mem_cons_of_mem _ hz)
      simp only [List.map_cons, List.sum_cons, List.length_cons] at *
      omega
  have := h2 l h
  rw [List.length_map] at h1
  omega
theorem askS_shp (l : List (Int × Int)) : SeqAt.shaped (.str (askS l)) = true := shp_str fun c hc => by
  have := askS_sign hc
  omega
theorem askS_ne {l : List (Int × Int)} (h : l ≠ []) : askS l ≠ "" := fun e => by
  cases l with
  | nil => exact h rfl
  | cons p r =>
    have h1 : tl (askS (p :: r)) = [] := by rw [e]; rfl
    rw [tl_askS] at h1
    have h2 : tl (frS p) = [] := by
      cases r with
      | nil => exact h1
      | cons z r => exact (List.append_eq_nil_iff.mp (show tl (frS p) ++ _ = [] from h1)).1
    rw [tl_frS] at h2
    simp at h2
def N_read_asking : List Str := ["text", "asking", "word", "above", "below"]
def body_read_asking : TS3 := (xSeq (xIfS (xTest (x2 kEq (xView 0) (xC (.str "")))) xNever xNext)
  (xSeq (xAsg (xD (x1 cTup (xFz (xLc (xSeqI (xFz (xSplit (xView 0) (xC (.str " "))))) (xGName 2) xYes (xCall sp_fraction_read xNoE (xArg (xView 2) xANil)) [2])))) (xGName 1))
  (xSeq (xDrop (xCall sp_need_asking xNoE (xArg (xView 1) xANil)))
  (xRet (xD (x1 cTup (xFz (xLc (xSeqI (xView 1)) (xGTup 2 (xGCons (xGName 3) (xGCons (xGName 4) xGNil))) xYes (xCall sp_in_least xNoE (xArg (xView 3) (xArg (xView 4) xANil))) [3, 4]))))))))

def sp_read_asking : Sp3 := fun ts Q _ => ∃ l, ts = [.d (.str (askS l))] ∧ l ≠ [] ∧ l.length ≤ 10 ∧ (∀ p ∈ l, OkT p) ∧ Q (.d (asD (l.map fun p => inL p.1 p.2))) ts
theorem v_read_asking (ts Q E) (h : sp_read_asking ts Q E) : body_read_asking { nx := fun r => finOk ts r ∧ Q (.d .none) (finF ts r), rt := fun x r => finOk ts r ∧ Q x (finF ts r) } (start3 N_read_asking ts) := by
  obtain ⟨l, rfl, hl, hlen, hp, q⟩ := h
  have hb : 100000 < sizeLine := by decide
  have hal := askS_len hp
  have hal2 : (askS l).length ≤ 204 * l.length := by rw [len_tl]; exact hal
  have tk : ∀ {α : Type} (f : α → PyData) (m : List α) (i : Nat) (x : α), m[i]? = some x → ((m.take i).map fun z => T.d (f z)) ++ [T.d (f x)] = (m.take (i + 1)).map fun z => T.d (f z) := fun f m i x hx => by rw [take_succ hx, List.map_append]; rfl
  refine ⟨askS_shp l, by decide +kernel, fun hc => ?_, fun _ => ⟨by decide +kernel, by omega, fun ps => ⟨nvs_map _ _, fun pc => ?_⟩⟩⟩
  · have h3 : PyData.eqv (.str (askS l)) (.str "") = true := hc
    rw [eqv_strF (askS_ne hl)] at h3; cases h3
  · rw [askS_split hl]
    refine ⟨fun i acc r => r = [some (.d (.str (askS l))), none, none, none, none] ∧ acc = (l.take i).map fun z => T.d (prI z), ⟨rfl, rfl⟩, fun i x acc r hx hW => ?_, fun acc r hW => ?_⟩
    · obtain ⟨rfl, rfl⟩ := hW
      obtain ⟨w, hw, rfl⟩ := get_fz (f := fun z => PyData.str z) hx
      obtain ⟨z, hz, rfl⟩ := get_fun hw
      exact ⟨fun _ => ⟨nd0, z, rfl, hp z (List.mem_of_getElem? hz), by rw [List.length_map, List.length_take]; omega, rfl, tk prI l i z hz⟩, nofun⟩
    · obtain ⟨rfl, hacc⟩ := hW
      have hacc2 : acc = l.map fun z => T.d (prI z) := by
        rw [hacc, fzs_map, List.length_map, List.length_map, List.take_length]
      subst hacc2
      have e1 : fz (T.own pc (l.map fun z => T.d (prI z))) = .list (l.map prI) := by
        show PyData.list (fzs (l.map fun z => T.d (prI z))) = _
        rw [fzs_map]
      refine ⟨nvs_map _ _, ?_⟩
      rw [e1]
      refine ⟨nd0, l, rfl, hl, fun p h => (hp p h).1, fun pd => ⟨fun i acc r => r = [some (.d (.str (askS l))), some (.d (asD l)), none, none, none] ∧ acc = (l.take i).map fun z => T.d (prI (inL z.1 z.2)), ⟨rfl, rfl⟩, fun i x acc r hx hW => ?_, fun acc r hW => ?_⟩⟩
      · obtain ⟨rfl, rfl⟩ := hW
        obtain ⟨z, hz, rfl⟩ := get_fun hx
        have hz2 := hp z (List.mem_of_getElem? hz)
        have sb : Sz 8000 z.2 := by unfold Sz; exact Nat.lt_of_lt_of_le hz2.2.2 (by
          calc 10 ^ 100 ≤ 2 ^ 400 := by decide +kernel
            _ ≤ 2 ^ 8000 := Nat.pow_le_pow_right (by decide) (by decide))
        exact ⟨rfl, fun _ => ⟨nd0, z.1, z.2, rfl, hz2.1, sb, by rw [List.length_map, List.length_take]; omega, rfl, tk (fun (z : Int × Int) => prI (inL z.1 z.2)) l i z hz⟩, nofun⟩
      · obtain ⟨rfl, hacc⟩ := hW
        have hacc2 : acc = l.map fun z => T.d (prI (inL z.1 z.2)) := by
          rw [hacc, List.length_map, List.take_length]
        subst hacc2
        have e2 : fz (T.own pd (l.map fun z => T.d (prI (inL z.1 z.2)))) = .list ((l.map fun z => inL z.1 z.2).map prI) := by
          show PyData.list (fzs (l.map fun z => T.d (prI (inL z.1 z.2)))) = _
          rw [fzs_map (fun (z : Int × Int) => prI (inL z.1 z.2)), List.map_map]
          rfl
        refine ⟨nvs_map (fun (z : Int × Int) => prI (inL z.1 z.2)) _, ?_⟩
        rw [e2]
        exact ⟨⟨⟩, q⟩
end L3
namespace L3
open PySem PySem.Spec PyProof.Rows L2 TL
local macro_rules | `(tactic| wtm_at "sh") => `(tactic| conv => whnf)
abbrev leastP (p : Int × Int) : Int × Int := inL p.1 p.2
theorem inL_abs {a b : Int} (hb : 0 < b) : (inL a b).1.natAbs ≤ a.natAbs ∧ (inL a b).2.natAbs ≤ b.natAbs := by
  have hg : 0 < Int.gcd a b := by
    have : Int.gcd a b ≠ 0 := fun e => by rw [Int.gcd_eq_zero_iff] at e; omega
    omega
  have eA : a = Int.gcd a b * (inL a b).1 := (Int.mul_ediv_cancel' (Int.gcd_dvd_left ..)).symm
  have eB : b = Int.gcd a b * (inL a b).2 := (Int.mul_ediv_cancel' (Int.gcd_dvd_right ..)).symm
  have h1 : a.natAbs = Int.gcd a b * (inL a b).1.natAbs := by
    have := congrArg Int.natAbs eA
    rw [Int.natAbs_mul] at this
    exact this
  have h2 : b.natAbs = Int.gcd a b * (inL a b).2.natAbs := by
    have := congrArg Int.natAbs eB
    rw [Int.natAbs_mul] at this
    exact this
  constructor
  · have := Nat.mul_le_mul_right (inL a b).1.natAbs (show 1 ≤ Int.gcd a b from hg)
    omega
  · have := Nat.mul_le_mul_right (inL a b).2.natAbs (show 1 ≤ Int.gcd a b from hg)
    omega
theorem okT_least {p : Int × Int} (h : OkT p) : OkT (leastP p) := by
  have := inL_abs (a := p.1) h.1
  have h2 := inL_pos (A := p.1) h.1
  exact ⟨h2.1, Nat.lt_of_le_of_lt this.1 h.2.1, Nat.lt_of_le_of_lt this.2 h.2.2⟩
theorem inL_idem {a b : Int} (hb : 0 < b) : inL (inL a b).1 (inL a b).2 = inL a b := by
  have hg : 0 < Int.gcd a b := by
    have : Int.gcd a b ≠ 0 := fun e => by rw [Int.gcd_eq_zero_iff] at e; omega
    omega
  have cop : Int.gcd (inL a b).1 (inL a b).2 = 1 := Int.gcd_ediv_gcd_ediv_gcd hg
  show ((inL a b).1 / (Int.gcd (inL a b).1 (inL a b).2 : Nat), (inL a b).2 / (Int.gcd (inL a b).1 (inL a b).2 : Nat)) = _
  rw [cop]
  simp
theorem sz_ten {x : Int} (h : x.natAbs < 10 ^ 100) : Sz 400 x := Nat.lt_of_lt_of_le h (by decide +kernel)
theorem iS_len {i : Int} (h : i.natAbs < 10 ^ 100) : (iS i).length ≤ 101 := by rw [len_tl, tl_iS]; exact signL_len h
theorem join_small {l : List (Int × Int)} (h : ∀ p ∈ l, OkT p) (hl : l.length ≤ 10) : ((l.map frS).map (·.length)).sum + (l.map frS).length * (" " : Str).length ≤ 16777216 := by
  have h2 : ∀ m : List (Int × Int), (∀ p ∈ m, OkT p) → ((m.map frS).map (·.length)).sum ≤ 203 * m.length := by
    intro m
    induction m with
    | nil => intro _; simp
    | cons p m ih =>
      intro hm
      have h1 := frS_len (hm p (by simp))
      have h0 : (frS p).length = (tl (frS p)).length := len_tl _
      have := ih fun z hz => hm z (List.mem_cons_of_mem _ hz)
      simp only [List.map_cons, List.sum_cons, List.length_cons] at *
      omega
  have := h2 l h
  have e : (" " : Str).length = 1 := by decide +kernel
  rw [e, List.length_map]
  omega
def N_asking_shown : List Str := ["asking", "words", "above", "below", "one"]
def body_asking_shown : TS3 := (xSeq (xDrop (xCall sp_need_asking xNoE (xArg (xView 0) xANil)))
  (xSeq (xAsg (xLst xNil) (xGName 1))
  (xSeq (xFor (xSeqI (xView 0)) (xGTup 2 (xGCons (xGName 2) (xGCons (xGName 3) xGNil))) (xSeq (xAsg (xCall sp_in_least xNoE (xArg (xView 2) (xArg (xView 3) xANil))) (xGName 4))
  (xDrop (xApp 1 (x2 cAdd (xFz (x2 cAdd (x1 cStr (x2 cIx (xView 4) (xC (.int 0)))) (xC (.str "/")))) (x1 cStr (x2 cIx (xView 4) (xC (.int 1)))))))))
  (xRet (xD (xJoin (xC (.str " ")) (xView 1)))))))

def sp_asking_shown : Sp3 := fun ts Q _ => ∃ l, ts = [.d (asD l)] ∧ l ≠ [] ∧ l.length ≤ 10 ∧ (∀ p ∈ l, OkT p) ∧ Q (.d (.str (askS (l.map leastP)))) ts
theorem v_asking_shown (ts Q E) (h : sp_asking_shown ts Q E) : body_asking_shown { nx := fun r => finOk ts r ∧ Q (.d .none) (finF ts r), rt := fun x r => finOk ts r ∧ Q x (finF ts r) } (start3 N_asking_shown ts) := by
  obtain ⟨l, rfl, hl, hlen, hp, q⟩ := h
  have hb : 100000 < sizeLine := by decide
  have e1 : ("/" : Str).length = 1 := by decide +kernel
  refine ⟨nd0, l, rfl, hl, fun p h => (hp p h).1, sz 0, fun pw => ?_⟩
  refine ⟨fun i r => ∃ L a b c, r = [some (.d (asD l)), some (.own pw L), a, b, c] ∧ L = (l.take i).map fun z => T.d (.str (frS (leastP z))), ⟨_, _, _, _, rfl, rfl⟩, fun i x r hx hW => ?_, fun r hW => ?_⟩
  · obtain ⟨_, a, b, c, rfl, rfl⟩ := hW
    obtain ⟨z, hz, rfl⟩ := get_fun hx
    have hz2 := hp z (List.mem_of_getElem? hz)
    have hz3 := okT_least hz2
    have l1 : (inL z.1 z.2).1.natAbs.log2 ≤ 400 := (sz_ten hz3.2.1).log
    have l2 : (inL z.1 z.2).2.natAbs.log2 ≤ 400 := (sz_ten hz3.2.2).log
    have n1 : (Str.ofString (toString (inL z.1 z.2).1)).length ≤ 101 := iS_len hz3.2.1
    have n2 : (Str.ofString (toString (inL z.1 z.2).2)).length ≤ 101 := iS_len hz3.2.2
    have n3 : (Str.ofString (toString (inL z.1 z.2).1) ++ Str.ofString "/").length ≤ 102 := by
      rw [len_tl, tl_append, List.length_append, ← len_tl, ← len_tl, e1]; omega
    refine ⟨rfl, nd0, z.1, z.2, rfl, hz2.1, (sz_ten hz2.2.2).mono (by decide), _, rfl, by omega, by omega, _, rfl, by omega, by omega, by rw [List.length_map, List.length_take]; omega, _, _, _, _, rfl, by rw [take_succ hz, List.map_append]; rfl⟩
  · obtain ⟨_, a, b, c, rfl, rfl⟩ := hW
    have hp2 : ∀ p ∈ l.map leastP, OkT p := fun p h => by
      obtain ⟨z, hz, rfl⟩ := List.mem_map.mp h
      exact okT_least (hp z hz)
    refine ⟨(l.map leastP).map frS, by rw [List.length_map, List.take_length, List.map_map, List.map_map]; rfl, join_small hp2 (by simpa using hlen), ⟨⟩, q⟩
def L1_law_3 : TS3 := (xFor (xR1 (xC (.int 2))) (xGName 7) (xSeq (xIfS (xOr (xNot (xTest (xFz (xCall (sp_law_same_1 8) xNoE (xArg (xFz (xCall sp_asking_shown xNoE (xArg (xView 3) xANil))) (xArg (xView 5) xANil)))))) (xNot (xTest (xFz (xCall (sp_law_same_1 8) xNoE (xArg (xFz (xCall sp_read_asking xNoE (xArg (xView 5) xANil))) (xArg (xView 4) xANil))))))) (xRet (xD (xC (.bool false)))) xNext)
  (xIfS (xNot (xTest (xFz (xCall (sp_law_same_1 8) xNoE (xArg (xFz (xCall sp_read_asking xNoE (xArg (xView 6) xANil))) (xArg (xView 4) xANil)))))) (xRet (xD (xC (.bool false)))) xNext)))
def R2_law_3 : TS3 := (xSeq (xAsg (xD (x1 cTup (xFz (xLc (xSeqI (xView 3)) (xGTup 2 (xGCons (xGName 8) (xGCons (xGName 9) xGNil))) xYes (xCall sp_law_reduced xNoE (xArg (xView 8) (xArg (xView 9) xANil))) [8, 9])))) (xGName 4))
  (xSeq (xAsg (xD (xJoin (xC (.str " ")) (xFz (xLc (xSeqI (xView 4)) (xGTup 2 (xGCons (xGName 8) (xGCons (xGName 9) xGNil))) xYes (x2 cAdd (xFz (x2 cAdd (x1 cStr (xView 8)) (xC (.str "/")))) (x1 cStr (xView 9))) [8, 9])))) (xGName 5))
  (xSeq (xAsg (xD (xJoin (xC (.str " ")) (xFz (xLc (xSeqI (xView 3)) (xGTup 2 (xGCons (xGName 8) (xGCons (xGName 9) xGNil))) xYes (x2 cAdd (xFz (x2 cAdd (x1 cStr (xView 8)) (xC (.str "/")))) (x1 cStr (xView 9))) [8, 9])))) (xGName 6))
  L1_law_3)))
def L3_law_3 : TS3 := (xFor (xR1 (xC (.int 10))) (xGName 2) (xSeq (xAsg (xCall sp_law_asking_1 xNoE (xIo 1 xANil)) (xGName 3))
  (xSeq (xIfS (xTest (x2 kEqI (xFz (xCall sp_law_take xNoE (xIo 1 (xArg (xC (.int 5)) xANil)))) (xC (.int 0)))) (xAsg (x2 cAdd (xFz (xTup (xCons (xTup (xCons (xD (xC (.int 0))) (xCons (xD (x2 cIx (x2 cIx (xView 3) (xC (.int 0))) (xC (.int 1)))) xNil))) xNil))) (xFz (xSl (xView 3) (xSome (xC (.int 1))) xNo))) (xGName 3)) xNext)
  R2_law_3)))
def N_law_3 : List Str := ["_law_script", "_law_deck_here", "_law_turn", "_law_asking_here", "_law_due", "_law_text", "_law_wider", "_law_again", "_law_above", "_law_below_here"]
def body_law_3 : TS3 := (xSeq (xAsg (xCall sp_law_deck xNoE (xArg (xView 0) xANil)) (xGName 1))
  (xSeq L3_law_3
  (xRet (xD (xAndV (x2 kEq (xFz (xCall sp_asking_shown xNoE (xArg (xFz (xTup (xCons (xTup (xCons (xD (xC (.int 0))) (xCons (xD (xC (.int 7))) xNil))) (xCons (xTup (xCons (xD (xNeg (xC (.int 6)))) (xCons (xD (xC (.int 4))) xNil))) xNil)))) xANil))) (xC (.str "0/1 -3/2"))) (x2 kEq (xFz (xCall sp_read_asking xNoE (xArg (xC (.str "6/4 0/9")) xANil))) (xFz (xTup (xCons (xTup (xCons (xD (xC (.int 3))) (xCons (xD (xC (.int 2))) xNil))) (xCons (xTup (xCons (xD (xC (.int 0))) (xCons (xD (xC (.int 1))) xNil))) xNil))))))))))

theorem v_L1_law_3 {D : Ends3} {a dk : Addr} {ns : List Int} {l : List T} {t u7 u8 u9 : Option T} {p : List (Int × Int)} (hne : p ≠ []) (hlen : p.length ≤ 10) (hp : ∀ z ∈ p, OkT z)
    (q : ∀ u, D.nx [some (.sc a ns), some (.own dk l), t, some (.d (asD p)), some (.d (asD (p.map leastP))), some (.d (.str (askS (p.map leastP)))), some (.d (.str (askS p))), u, u8, u9]) :
    L1_law_3 D [some (.sc a ns), some (.own dk l), t, some (.d (asD p)), some (.d (asD (p.map leastP))), some (.d (.str (askS (p.map leastP)))), some (.d (.str (askS p))), u7, u8, u9] := by
  have hb : 1000 < sizeLine := by decide
  have hp2 : ∀ z ∈ p.map leastP, OkT z := fun z h => by
    obtain ⟨y, hy, rfl⟩ := List.mem_map.mp h
    exact okT_least (hp y hy)
  have e2 : (p.map leastP).map leastP = p.map leastP := by
    rw [List.map_map]
    refine List.map_congr_left fun z hz => ?_
    exact inL_idem (hp z hz).1
  have nd : Nest 8 (asD (p.map leastP)) := ⟨by rw [List.length_map, List.length_map]; omega, fun y hy => by
    obtain ⟨z, _, rfl⟩ := List.mem_map.mp hy
    exact nest_pr _⟩
  have ns8 : Nest 8 (.str (askS (p.map leastP))) := askS_shp _
  have hlen2 : (p.map leastP).length ≤ 10 := by rw [List.length_map]; exact hlen
  have hne2 : p.map leastP ≠ [] := by simpa using hne
  refine ⟨by decide, by decide, fun j r => ∃ u, r = [some (.sc a ns), some (.own dk l), t, some (.d (asD p)), some (.d (asD (p.map leastP))), some (.d (.str (askS (p.map leastP)))), some (.d (.str (askS p))), u, u8, u9], ⟨_, rfl⟩, fun j x r hx hW => ?_, fun r hW => ?_⟩
  · obtain ⟨u, rfl⟩ := hW
    refine ⟨nd0, p, rfl, hne, hlen, hp, nd0, _, rfl, ns8, nofun, fun _ => ⟨nd0, p.map leastP, rfl, hne2, hlen2, hp2, nd0, asD (p.map leastP), ?_, nd, nofun, fun _ => ⟨nd0, p, rfl, hne, hlen, hp, nd0, asD (p.map leastP), rfl, nd, nofun, fun _ => ⟨_, rfl⟩⟩⟩⟩
    show [T.d (asD ((p.map leastP).map leastP)), _] = _
    rw [e2]
  · obtain ⟨u, rfl⟩ := hW
    exact q u
theorem v_R2_law_3 {D : Ends3} {a dk : Addr} {ns : List Int} {l : List T} {t u4 u5 u6 u7 : Option T} {p : List (Int × Int)} (hne : p ≠ []) (hlen : p.length ≤ 10) (hp : ∀ z ∈ p, OkT z)
    (q : ∀ u4 u5 u6 u7, D.nx [some (.sc a ns), some (.own dk l), t, some (.d (asD p)), u4, u5, u6, u7, none, none]) :
    R2_law_3 D [some (.sc a ns), some (.own dk l), t, some (.d (asD p)), u4, u5, u6, u7, none, none] := by
  have hb : 1000 < sizeLine := by decide
  have s1 : ("/" : Str).length = 1 := by decide +kernel
  have hp2 : ∀ z ∈ p.map leastP, OkT z := fun z h => by
    obtain ⟨y, hy, rfl⟩ := List.mem_map.mp h
    exact okT_least (hp y hy)
  -- a text of every fraction
  have one : ∀ z : Int × Int, OkT z → z.1.natAbs.log2 < 1920 ∧ (Str.ofString (toString z.1)).length + (Str.ofString "/").length ≤ sizeLine ∧ z.2.natAbs.log2 < 1920 ∧ (Str.ofString (toString z.1) ++ Str.ofString "/").length + (Str.ofString (toString z.2)).length ≤ sizeLine := fun z hz => by
    have l1 := (sz_ten hz.2.1).log
    have l2 := (sz_ten hz.2.2).log
    have n1 : (Str.ofString (toString z.1)).length ≤ 101 := iS_len hz.2.1
    have n2 : (Str.ofString (toString z.2)).length ≤ 101 := iS_len hz.2.2
    have n3 : (Str.ofString (toString z.1) ++ Str.ofString "/").length ≤ 102 := by
      rw [len_tl, tl_append, List.length_append, ← len_tl, ← len_tl, s1]; omega
    have s2 : (Str.ofString "/").length = 1 := s1
    exact ⟨by omega, by omega, by omega, by omega⟩
  refine fun pa => ⟨fun i acc r => r = [some (.sc a ns), some (.own dk l), t, some (.d (asD p)), u4, u5, u6, u7, none, none] ∧ acc = (p.take i).map fun z => T.d (prI (leastP z)), ⟨rfl, rfl⟩, fun i x acc r hx hW => ?_, fun acc r hW => ?_⟩
  · obtain ⟨rfl, rfl⟩ := hW
    obtain ⟨z, hz, rfl⟩ := get_fun hx
    have hz2 := hp z (List.mem_of_getElem? hz)
    exact ⟨rfl, fun _ => ⟨nd0, z.1, z.2, rfl, hz2.1, (sz_ten hz2.2.2).mono (by decide), by rw [List.length_map, List.length_take]; omega, rfl, by rw [take_succ hz, List.map_append]; rfl⟩, nofun⟩
  · obtain ⟨rfl, hacc⟩ := hW
    rw [List.length_map, List.take_length] at hacc
    subst hacc
    refine ⟨nvs_map (fun (z : Int × Int) => prI (leastP z)) _, ?_⟩
    have e1 : fz (T.own pa (p.map fun z => T.d (prI (leastP z)))) = .list ((p.map leastP).map prI) := by
      show PyData.list (fzs (p.map fun z => T.d (prI (leastP z)))) = _
      rw [fzs_map (fun (z : Int × Int) => prI (leastP z)), List.map_map]
      rfl
    rw [e1]
    refine fun pb => ⟨fun i acc r => r = [some (.sc a ns), some (.own dk l), t, some (.d (asD p)), some (.d (asD (p.map leastP))), u5, u6, u7, none, none] ∧ acc = ((p.map leastP).take i).map fun z => T.d (.str (frS z)), ⟨rfl, rfl⟩, fun i x acc r hx hW => ?_, fun acc r hW => ?_⟩
    · obtain ⟨rfl, rfl⟩ := hW
      obtain ⟨z, hz, rfl⟩ := get_fun hx
      have hz2 := one z (hp2 z (List.mem_of_getElem? hz))
      exact ⟨rfl, fun _ => ⟨hz2.1, hz2.2.1, hz2.2.2.1, hz2.2.2.2, by rw [List.length_map, List.length_take, List.length_map]; omega, rfl, by rw [take_succ hz, List.map_append]; rfl⟩, nofun⟩
    · obtain ⟨rfl, hacc⟩ := hW
      rw [List.length_map, List.take_length] at hacc
      subst hacc
      refine ⟨nvs_map (fun (z : Int × Int) => PyData.str (frS z)) _, (p.map leastP).map frS, ?_, join_small hp2 (by rw [List.length_map]; exact hlen), ?_⟩
      · rw [fzs_map (fun (z : Int × Int) => PyData.str (frS z))]; simp only [List.map_map]; rfl
      · refine fun pc => ⟨fun i acc r => r = [some (.sc a ns), some (.own dk l), t, some (.d (asD p)), some (.d (asD (p.map leastP))), some (.d (.str (askS (p.map leastP)))), u6, u7, none, none] ∧ acc = (p.take i).map fun z => T.d (.str (frS z)), ⟨rfl, rfl⟩, fun i x acc r hx hW => ?_, fun acc r hW => ?_⟩
        · obtain ⟨rfl, rfl⟩ := hW
          obtain ⟨z, hz, rfl⟩ := get_fun hx
          have hz2 := one z (hp z (List.mem_of_getElem? hz))
          exact ⟨rfl, fun _ => ⟨hz2.1, hz2.2.1, hz2.2.2.1, hz2.2.2.2, by rw [List.length_map, List.length_take]; omega, rfl, by rw [take_succ hz, List.map_append]; rfl⟩, nofun⟩
        · obtain ⟨rfl, hacc⟩ := hW
          rw [List.length_map, List.take_length] at hacc
          subst hacc
          refine ⟨nvs_map (fun (z : Int × Int) => PyData.str (frS z)) _, p.map frS, ?_, join_small hp hlen, ?_⟩
          · rw [fzs_map (fun (z : Int × Int) => PyData.str (frS z)), List.map_map]; rfl
          · exact v_L1_law_3 hne hlen hp fun u => q _ _ _ _
theorem v_law_3 (ts Q E) (h : spLaw ts Q E) : body_law_3 { nx := fun r => finOk ts r ∧ Q (.d .none) (finF ts r), rt := fun x r => finOk ts r ∧ Q x (finF ts r) } (start3 N_law_3 ts) := by
  obtain ⟨a, ns, rfl, hl, q⟩ := h
  have hb : 1000 < sizeLine := by decide
  have ofF : ∀ z : Int × Int, FrOk z → OkT z := fun z hz => ⟨hz.1, Nat.lt_of_lt_of_le (show z.1.natAbs < 10 ^ 30 by have := hz.2.2; omega) (Nat.pow_le_pow_right (by decide) (by decide)), Nat.lt_of_lt_of_le (show z.2.natAbs < 10 ^ 30 by have := hz.1; have := hz.2.1; omega) (Nat.pow_le_pow_right (by decide) (by decide))⟩
  refine ⟨nd0, a, ns, rfl, hl, fun dk l0 hd0 => ?_⟩
  refine ⟨by decide, by decide, fun i r => ∃ l b c d e f g, r = [some (.sc a ns), some (.own dk l), b, c, d, e, f, g, none, none] ∧ i ≤ 10 ∧ DeckOk (10000 + (10 - i) * 1000) l, ⟨l0, _, _, _, _, _, _, rfl, by decide, hd0.mono (by decide)⟩, fun i x r hx hW => ?_, fun r hW => ?_⟩
  · obtain ⟨l, b, c, d, e, f, g, rfl, hi, hd⟩ := hW
    obtain ⟨hi4, rfl⟩ := rangeI_get hx
    have hi4' : i < 10 := hi4
    refine ⟨nd1, 10000 + (9 - i) * 1000 + 900, dk, l, rfl, hd.mono (by omega), fun p l1 hp hd1 => ?_⟩
    obtain ⟨hne, hlen, hfr⟩ := hp
    refine ⟨nd1, 10000 + (9 - i) * 1000 + 899, dk, l1, _, rfl, hd1.mono (by omega), by decide, by decide, fun x1 l2 h10 h11 hd2 => ⟨fun hc => ?_, fun hc => v_R2_law_3 hne (by omega) (fun z hz => ofF z (hfr z hz)) fun _ _ _ _ => ⟨l2, _, _, _, _, _, _, rfl, by omega, hd2.mono (by omega)⟩⟩⟩
    match p, hne, hlen, hfr with
    | z :: p, hne, hlen, hfr =>
    have cut : cutL ((z :: p).map prI) (some 1) none = p.map prI := by
      rw [cut_one (by simp)]; rfl
    have hz := hfr z (by simp)
    have ok2 : ∀ y ∈ (0, z.2) :: p, OkT y := fun y hy => by
      rcases List.mem_cons.mp hy with rfl | hy
      · exact ⟨hz.1, (show (0 : Int).natAbs < 10 ^ 100 by decide +kernel), (ofF z hz).2.2⟩
      · exact ofF y (hfr y (by simp [hy]))
    refine ⟨_, rfl, _, rfl, sz 2, sz 1, by rw [cut, List.length_map]; simp only [List.length_cons] at hlen; show (1 : Nat) + _ ≤ _; omega, ?_⟩
    rw [cut]
    refine v_R2_law_3 (p := (0, z.2) :: p) (by simp) (by simp at hlen ⊢; omega) ok2 ?_
    exact fun _ _ _ _ => ⟨l2, _, _, _, _, _, _, rfl, by omega, hd2.mono (by omega)⟩
  · obtain ⟨l, b, c, d, e, f, g, rfl, hi, hd⟩ := hW
    have okc : ∀ y ∈ [((0 : Int), (7 : Int)), (-6, 4)], OkT y := fun y hy => by
      simp only [List.mem_cons, List.not_mem_nil, or_false] at hy
      rcases hy with rfl | rfl
      · exact ⟨by decide, by decide, by decide⟩
      · exact ⟨by decide, by decide, by decide⟩
    have okd : ∀ y ∈ [((6 : Int), (4 : Int)), (0, 9)], OkT y := fun y hy => by
      simp only [List.mem_cons, List.not_mem_nil, or_false] at hy
      rcases hy with rfl | rfl
      · exact ⟨by decide, by decide, by decide⟩
      · exact ⟨by decide, by decide, by decide⟩
    have e1 : askS ([((0 : Int), (7 : Int)), (-6, 4)].map leastP) = "0/1 -3/2" := ext_tl (by
      rw [tl_askS]
      have : [((0 : Int), (7 : Int)), (-6, 4)].map leastP = [(0, 1), (-3, 2)] := by decide +kernel
      rw [this]
      simp only [List.map_cons, List.map_nil, tl_frS]
      decide +kernel)
    have e2 : askS [((6 : Int), (4 : Int)), (0, 9)] = "6/4 0/9" := ext_tl (by
      rw [tl_askS]
      simp only [List.map_cons, List.map_nil, tl_frS]
      decide +kernel)
    have e3 : [((6 : Int), (4 : Int)), (0, 9)].map (fun p => inL p.1 p.2) = [(3, 2), (0, 1)] := by decide +kernel
    have sh : SeqAt.shaped (.str (askS ([((0 : Int), (7 : Int)), (-6, 4)].map leastP))) = true := askS_shp _
    refine ⟨sz 2, sz 2, sz 2, nd0, [(0, 7), (-6, 4)], rfl, by decide, by decide, okc, sh, by decide +kernel, fun _ => ?_, fun hc => ?_⟩
    · refine ⟨nd0, [(6, 4), (0, 9)], by rw [e2], by decide, by decide, okd, sz 2, sz 2, sz 2, ?_⟩
      rw [e3]
      exact ⟨rfl, rfl, ⟨⟩, q _⟩
    · have h3 : PyData.eqv (.str (askS ([((0 : Int), (7 : Int)), (-6, 4)].map leastP))) (.str "0/1 -3/2") = false := hc
      rw [e1, eqv_strT] at h3; cases h3
end L3
namespace L3
open PySem PySem.Spec PyProof.Rows L2 TL
local macro_rules | `(tactic| wtm_at "sh") => `(tactic| conv => whnf)
/-! ## one miss seen otherwise -/
theorem near_add (x b k : Int) (hb : 0 < b) : near (x + k * b) b = ((near x b).1 + k, (near x b).2) := by
  have e1 : (x + k * b) / b = x / b + k := Int.add_mul_ediv_right _ _ (by omega)
  have e2 : x + k * b - (x + k * b) / b * b = x - x / b * b := by rw [e1]; grind
  unfold near
  rw [e2, e1]
  split
  · rfl
  · show (x / b + k + 1, _) = (x / b + 1 + k, _)
    rw [show x / b + k + 1 = x / b + 1 + k by omega]
theorem near_mul (x b k : Int) (hk : 0 < k) (hb : 0 < b) : near (k * x) (k * b) = ((near x b).1, k * (near x b).2) := by
  have e1 : k * x / (k * b) = x / b := Int.mul_ediv_mul_of_pos _ _ hk
  have e2 : k * x - k * x / (k * b) * (k * b) = k * (x - x / b * b) := by rw [e1]; grind
  unfold near
  rw [e2, e1]
  by_cases c : 2 * (x - x / b * b) ≤ b
  · have c2 : 2 * (k * (x - x / b * b)) ≤ k * b := by
      have := Int.mul_le_mul_of_nonneg_left c (Int.le_of_lt hk)
      have e : k * (2 * (x - x / b * b)) = 2 * (k * (x - x / b * b)) := by grind
      omega
    rw [if_pos c, if_pos c2]
  · have c2 : ¬ 2 * (k * (x - x / b * b)) ≤ k * b := by
      have := Int.mul_lt_mul_of_pos_left (show b < 2 * (x - x / b * b) by omega) hk
      have e : k * (2 * (x - x / b * b)) = 2 * (k * (x - x / b * b)) := by grind
      omega
    rw [if_neg c, if_neg c2]
    have : k * b - k * (x - x / b * b) = k * (b - (x - x / b * b)) := by grind
    rw [this]
theorem near_neg (x b : Int) (hb : 0 < b) : (near (-x) b).2 = (near x b).2 := by
  have h1 := Int.emod_nonneg x (show b ≠ 0 by omega)
  have h2 := Int.emod_lt_of_pos x hb
  have h3 : ∀ y : Int, y - y / b * b = y % b := fun y => by
    have := Int.mul_ediv_add_emod y b
    rw [Int.mul_comm b] at this
    omega
  unfold near
  rw [h3, h3]
  by_cases z : x % b = 0
  · have : -x % b = 0 := by
      have := Int.emod_emod_of_dvd (-x) (Int.dvd_refl b)
      exact Int.emod_eq_zero_of_dvd ((Int.dvd_neg).mpr (Int.dvd_of_emod_eq_zero z))
    rw [z, this, if_pos (by omega), if_pos (by omega)]
  · have : -x % b = b - x % b := by
      have e : -x = (b - x % b) + (-(x / b) - 1) * b := by
        have := Int.mul_ediv_add_emod x b
        have e2 : (b - x % b) + (-(x / b) - 1) * b = -(b * (x / b) + x % b) := by grind
        rw [e2, this]
      rw [e, Int.add_mul_emod_self_right, Int.emod_eq_of_lt (by omega) (by omega)]
    rw [this]
    by_cases c : 2 * (x % b) ≤ b
    · rw [if_pos c]
      by_cases c2 : 2 * (b - x % b) ≤ b
      · rw [if_pos c2]; show b - x % b = x % b; omega
      · rw [if_neg c2]; show b - (b - x % b) = x % b; omega
    · rw [if_neg c, if_pos (by omega)]
/-- fractions of one value -/
def Alike (x y : Int × Int) : Prop := x.1 * y.2 = y.1 * x.2
def leF (x y : Int × Int) : Prop := x.1 * y.2 ≤ y.1 * x.2
theorem leF_trans {x y z : Int × Int} (hx : 0 < x.2) (hy : 0 < y.2) (hz : 0 < z.2) (h : leF x y) (k : leF y z) : leF x z := by
  unfold leF at *
  have e1 := Int.mul_le_mul_of_nonneg_right h (Int.le_of_lt hz)
  have e2 := Int.mul_le_mul_of_nonneg_right k (Int.le_of_lt hx)
  have e3 : x.1 * z.2 * y.2 ≤ z.1 * x.2 * y.2 := by
    have a1 : x.1 * z.2 * y.2 = x.1 * y.2 * z.2 := by grind
    have a2 : y.1 * x.2 * z.2 = y.1 * z.2 * x.2 := by grind
    have a3 : z.1 * y.2 * x.2 = z.1 * x.2 * y.2 := by grind
    omega
  exact Int.le_of_mul_le_mul_right e3 hy
theorem inL_alike {x y : Int × Int} (hx : 0 < x.2) (hy : 0 < y.2) (h : Alike x y) : inL x.1 x.2 = inL y.1 y.2 := by
  obtain ⟨x1, x2⟩ := x
  obtain ⟨y1, y2⟩ := y
  simp only [Alike] at *
  have g1 : 0 < Int.gcd x1 x2 := by
    have : Int.gcd x1 x2 ≠ 0 := fun e => by rw [Int.gcd_eq_zero_iff] at e; omega
    omega
  have g2 : 0 < Int.gcd y1 y2 := by
    have : Int.gcd y1 y2 ≠ 0 := fun e => by rw [Int.gcd_eq_zero_iff] at e; omega
    omega
  have eA : x1 = Int.gcd x1 x2 * (inL x1 x2).1 := (Int.mul_ediv_cancel' (Int.gcd_dvd_left ..)).symm
  have eB : x2 = Int.gcd x1 x2 * (inL x1 x2).2 := (Int.mul_ediv_cancel' (Int.gcd_dvd_right ..)).symm
  have eC : y1 = Int.gcd y1 y2 * (inL y1 y2).1 := (Int.mul_ediv_cancel' (Int.gcd_dvd_left ..)).symm
  have eD : y2 = Int.gcd y1 y2 * (inL y1 y2).2 := (Int.mul_ediv_cancel' (Int.gcd_dvd_right ..)).symm
  have c1 : Int.gcd (inL x1 x2).1 (inL x1 x2).2 = 1 := Int.gcd_ediv_gcd_ediv_gcd g1
  have c2 : Int.gcd (inL y1 y2).1 (inL y1 y2).2 = 1 := Int.gcd_ediv_gcd_ediv_gcd g2
  have p1 := (inL_pos (A := x1) hx).1
  have p2 := (inL_pos (A := y1) hy).1
  have hg : (0 : Int) < (Int.gcd x1 x2 : Int) * (Int.gcd y1 y2 : Int) := Int.mul_pos (by omega) (by omega)
  have key : (inL x1 x2).1 * (inL y1 y2).2 = (inL y1 y2).1 * (inL x1 x2).2 := by
    generalize (inL x1 x2).1 = a at *
    generalize (inL x1 x2).2 = b at *
    generalize (inL y1 y2).1 = c at *
    generalize (inL y1 y2).2 = d at *
    generalize (Int.gcd x1 x2 : Int) = g at *
    generalize (Int.gcd y1 y2 : Int) = k at *
    have : (g * k) * (a * d) = (g * k) * (c * b) := by
      rw [eA, eD, eC, eB] at h
      grind
    exact Int.eq_of_mul_eq_mul_left (by omega) this
  have dvd : ∀ {a b c d : Int}, Int.gcd a b = 1 → a * d = c * b → b ∣ d := fun {a b c d} hc he => by
    have h1 : b ∣ d * a := ⟨c, by rw [Int.mul_comm d, he, Int.mul_comm]⟩
    have h4 := Int.natAbs_dvd_natAbs.mpr h1
    rw [Int.natAbs_mul] at h4
    have h5 : Nat.Coprime b.natAbs a.natAbs := by
      show Nat.gcd _ _ = 1
      rw [Nat.gcd_comm]; exact hc
    exact Int.natAbs_dvd_natAbs.mp (h5.dvd_of_dvd_mul_right h4)
  have d1 := dvd c1 key
  have d2 := dvd c2 key.symm
  have eb : (inL x1 x2).2 = (inL y1 y2).2 := by
    have l1 := Int.le_of_dvd p2 d1
    have l2 := Int.le_of_dvd p1 d2
    omega
  have ea : (inL x1 x2).1 = (inL y1 y2).1 := by
    rw [← eb] at key
    exact Int.eq_of_mul_eq_mul_right (by omega) key
  exact Prod.ext ea eb
/-- how far off one of the fractions is -/
abbrev offP (q : Int) (p : Int × Int) : Int × Int := ((near (q * p.1) p.2).2, p.2)
theorem missF_max {q : Int} : ∀ (l : List (Int × Int)) (m : Int × Int), 0 < m.2 → (∀ p ∈ l, 0 < p.2) → 0 < (l.foldl (missS q) m).2 ∧ leF m (l.foldl (missS q) m) ∧ (∀ p ∈ l, leF (offP q p) (l.foldl (missS q) m)) ∧ (l.foldl (missS q) m = m ∨ ∃ p ∈ l, l.foldl (missS q) m = offP q p)
  | [], m, hm, _ => ⟨hm, Int.le_refl _, fun p h => by simp at h, .inl rfl⟩
  | z :: l, m, hm, hl => by
    have hz := hl z (by simp)
    rw [List.foldl_cons]
    unfold missS
    split
    · rename_i hc
      have h1 : m.1 * z.2 < (near (q * z.1) z.2).2 * m.2 := of_decide_eq_true hc
      obtain ⟨a1, a2, a3, a4⟩ := missF_max l ((near (q * z.1) z.2).2, z.2) hz fun p h => hl p (List.mem_cons_of_mem _ h)
      refine ⟨a1, leF_trans (y := ((near (q * z.1) z.2).2, z.2)) hm hz a1 (show m.1 * z.2 ≤ (near (q * z.1) z.2).2 * m.2 by omega) a2, fun p h => ?_, ?_⟩
      · rcases List.mem_cons.mp h with rfl | h
        · exact a2
        · exact a3 p h
      · rcases a4 with a4 | ⟨p, h, a4⟩
        · exact .inr ⟨z, by simp, a4⟩
        · exact .inr ⟨p, List.mem_cons_of_mem _ h, a4⟩
    · rename_i hc
      have h1 : ¬ m.1 * z.2 < (near (q * z.1) z.2).2 * m.2 := fun h => hc (decide_eq_true h)
      obtain ⟨a1, a2, a3, a4⟩ := missF_max l m hm fun p h => hl p (List.mem_cons_of_mem _ h)
      refine ⟨a1, a2, fun p h => ?_, ?_⟩
      · rcases List.mem_cons.mp h with rfl | h
        · exact leF_trans hz hm a1 (show (near (q * p.1) p.2).2 * m.2 ≤ m.1 * p.2 by omega) a2
        · exact a3 p h
      · rcases a4 with a4 | ⟨p, h, a4⟩
        · exact .inl a4
        · exact .inr ⟨p, List.mem_cons_of_mem _ h, a4⟩
/-- one asking is no further off than another -/
theorem miss_le {l l' : List (Int × Int)} {q q' : Int} (hl : ∀ p ∈ l, 0 < p.2) (hl' : ∀ p ∈ l', 0 < p.2) (h : ∀ p ∈ l, ∃ p' ∈ l', leF (offP q p) (offP q' p')) : leF (missF l q) (missF l' q') := by
  obtain ⟨a1, a2, a3, a4⟩ := missF_max (q := q) l (0, 1) (by decide) hl
  obtain ⟨b1, b2, b3, b4⟩ := missF_max (q := q') l' (0, 1) (by decide) hl'
  rcases a4 with a4 | ⟨p, hp, a4⟩
  · unfold missF
    rw [a4]
    exact b2
  · obtain ⟨p', hp', hle⟩ := h p hp
    unfold missF
    rw [a4]
    exact leF_trans (y := offP q' p') (hl p hp) (hl' p' hp') b1 hle (b3 p' hp')
theorem miss_eq {l l' : List (Int × Int)} {q q' : Int} (hl : ∀ p ∈ l, 0 < p.2) (hl' : ∀ p ∈ l', 0 < p.2) (h : ∀ p ∈ l, ∃ p' ∈ l', leF (offP q p) (offP q' p')) (h' : ∀ p ∈ l', ∃ p' ∈ l, leF (offP q' p) (offP q p')) : missL l q = missL l' q' := by
  have h1 := miss_le hl hl' h
  have h2 := miss_le hl' hl h'
  have a1 := (missF_max (q := q) l (0, 1) (by decide) hl).1
  have b1 := (missF_max (q := q') l' (0, 1) (by decide) hl').1
  unfold leF at h1 h2
  exact inL_alike a1 b1 (show (missF l q).1 * (missF l' q').2 = (missF l' q').1 * (missF l q).2 by omega)
end L3
namespace L3
open PySem PySem.Spec PyProof.Rows L2 TL
local macro_rules | `(tactic| wtm_at "sh") => `(tactic| conv => whnf)
theorem lessM_congr {l l' : List (Int × Int)} (h : ∀ q, missL l q = missL l' q) (p q : Int) : lessM l p q = lessM l' p q := by
  unfold lessM
  rw [h, h]
theorem bestL_congr {l l' : List (Int × Int)} (h : ∀ q, missL l q = missL l' q) : ∀ n, bestL l n = bestL l' n
  | 0 => rfl
  | n + 1 => by
    show bestS l (bestL l n) _ = bestS l' (bestL l' n) _
    rw [bestL_congr h n]
    unfold bestS
    simp only [lessM_congr h]
    split <;> rfl
/-- the best ones of one fraction seen otherwise -/
theorem best_same {l l' : List (Int × Int)} (ok : OkA l) (h : ∀ q, missL l' q = missL l q) {m m' : Nat} (h1 : (missL l m).1 = 0) (h2 : (bestL l m).getLast? = some (m : Int)) (k1 : (missL l' m').1 = 0) (k2 : (bestL l' m').getLast? = some (m' : Int)) : bestL l' m' = bestL l m := by
  rw [bestL_congr h] at k2 ⊢
  rw [h] at k1
  rcases Nat.le_total m m' with e | e
  · exact bestL_done ok h1 h2 e
  · exact (bestL_done ok k1 k2 e).symm
theorem one_pos {A B : Int} (hB : 0 < B) : ∀ p ∈ [(A, B)], 0 < p.2 := fun p hp => by rw [List.mem_singleton.mp hp]; exact hB
theorem miss_one {A B A' B' q : Int} (hB : 0 < B) (hB' : 0 < B') (h : (near (q * A) B).2 * B' = (near (q * A') B').2 * B) : missL [(A, B)] q = missL [(A', B')] q :=
  miss_eq (one_pos hB) (one_pos hB') (fun p hp => ⟨(A', B'), by simp, by rw [List.mem_singleton.mp hp]; exact Int.le_of_eq h⟩) (fun p hp => ⟨(A, B), by simp, by rw [List.mem_singleton.mp hp]; exact Int.le_of_eq h.symm⟩)
theorem scale_one {a b k : Int} (hk : 0 < k) (hb : 0 < b) (q : Int) : missL [(k * a, k * b)] q = missL [(a, b)] q ∧ rowF [(k * a, k * b)] q = rowF [(a, b)] q := by
  have e : near (q * (k * a)) (k * b) = ((near (q * a) b).1, k * (near (q * a) b).2) := by
    rw [show q * (k * a) = k * (q * a) by grind]
    exact near_mul _ _ _ hk hb
  have hkb : 0 < k * b := Int.mul_pos hk hb
  refine ⟨miss_one hkb hb ?_, ?_⟩
  · rw [e]
    show k * (near (q * a) b).2 * b = (near (q * a) b).2 * (k * b)
    grind
  · show [(near (q * (k * a)) (k * b)).1] = [(near (q * a) b).1]
    rw [e]
theorem trD_congr {l l' : List (Int × Int)} {q : Int} (h1 : missL l' q = missL l q) (h2 : rowF l' q = rowF l q) : trD l' q = trD l q := by
  unfold trD
  rw [h1, h2]
theorem bD_congr {l l' : List (Int × Int)} (ns : List Int) (h : ∀ q, trD l' q = trD l q) : bD l' ns = bD l ns := by
  unfold bD
  simp only [h]
def L1_law_right_5 : TS3 := (xFor (xZip (xView 4) (xFz (xSl (xView 4) (xSome (xC (.int 1))) xNo))) (xGTup 2 (xGCons (xGName 7) (xGCons (xGName 8) xGNil))) (xSeq (xAsg (xD (x2 kAdd (x2 cIx (xView 7) (xC (.int 0))) (xFz (xCall sp_law_take xNoE (xIo 0 (xArg (x2 kSub (x2 cIx (xView 8) (xC (.int 0))) (x2 cIx (xView 7) (xC (.int 0)))) xANil)))))) (xGName 9))
  (xSeq (xAsg (xD (x2 cIx (xFz (xCall sp_near_row xNoE (xArg (xFz (xTup (xCons (xMove 1) xNil))) (xArg (xView 9) xANil)))) (xC (.int 1)))) (xGName 6))
  (xIfS (xTest (x2 kLt (x2 kMul (x2 cIx (xView 6) (xC (.int 0))) (x2 cIx (x2 cIx (xView 7) (xC (.int 2))) (xC (.int 1)))) (x2 kMul (x2 cIx (x2 cIx (xView 7) (xC (.int 2))) (xC (.int 0))) (x2 cIx (xView 6) (xC (.int 1)))))) (xRet (xD (xC (.bool false)))) xNext))))
def N_law_right_5 : List Str := ["_law_deck_here", "_law_fraction_here", "_law_above", "_law_below_here", "_law_found", "_law_more", "_law_miss", "_law_one", "_law_other", "_law_between", "_law_q", "_law_row"]
def body_law_right_5 : TS3 := (xSeq (xAsg (xMove 1) (xGTup 2 (xGCons (xGName 2) (xGCons (xGName 3) xGNil))))
  (xSeq (xAsg (xCall sp_best_of_one xNoE (xArg (xView 1) xANil)) (xGName 4))
  (xFzS 4 (xSeq (xAsg (xD (x2 kSub (xFz (xCall sp_law_take xNoE (xIo 0 (xArg (xC (.int 801)) xANil)))) (xC (.int 400)))) (xGName 5))
  (xSeq (xIfS (xTest (x2 kNe (xFz (xCall sp_best_of_one xNoE (xArg (xFz (xTup (xCons (xD (x2 kAdd (xView 2) (x2 kMul (xView 5) (xView 3)))) (xCons (xMove 3) xNil)))) xANil))) (xFz (xLc (xSeqI (xView 4)) (xGTup 3 (xGCons (xGName 10) (xGCons (xGName 11) (xGCons (xGName 6) xGNil)))) xYes (xTup (xCons (xMove 10) (xCons (xTup (xCons (xD (x2 kAdd (x2 cIx (xView 11) (xC (.int 0))) (x2 kMul (xView 10) (xView 5)))) xNil)) (xCons (xMove 6) xNil)))) [10, 11, 6])))) (xRet (xD (xC (.bool false)))) xNext)
  (xSeq (xIfS (xTest (x2 kNe (xFz (xLc (xSeqI (xFz (xCall sp_best_of_one xNoE (xArg (xFz (xTup (xCons (xD (x2 kSub (xC (.int 0)) (xView 2))) (xCons (xMove 3) xNil)))) xANil)))) (xGTup 3 (xGCons (xGName 10) (xGCons (xGName 11) (xGCons (xGName 6) xGNil)))) xYes (xTup (xCons (xMove 10) (xCons (xMove 6) xNil))) [10, 11, 6])) (xFz (xLc (xSeqI (xView 4)) (xGTup 3 (xGCons (xGName 10) (xGCons (xGName 11) (xGCons (xGName 6) xGNil)))) xYes (xTup (xCons (xMove 10) (xCons (xMove 6) xNil))) [10, 11, 6])))) (xRet (xD (xC (.bool false)))) xNext)
  (xSeq (xIfS (xOr (xTest (x2 kNe (xFz (xCall sp_best_of_one xNoE (xArg (xFz (xTup (xCons (xD (x2 kMul (xView 2) (xC (.int 8)))) (xCons (xD (x2 kMul (xView 3) (xC (.int 8)))) xNil)))) xANil))) (xView 4))) (xTest (x2 kNe (xFz (xCall sp_best_of_one xNoE (xArg (x2 cIx (xFz (xCall sp_read_asking xNoE (xArg (xFz (xCall sp_asking_shown xNoE (xArg (xFz (xTup (xCons (xMove 1) xNil))) xANil))) xANil))) (xC (.int 0))) xANil))) (xView 4)))) (xRet (xD (xC (.bool false)))) xNext)
  (xSeq (xIfS (xTest (x2 kNe (xFz (xLc (xSeqI (xView 4)) (xGName 7) (xTest (x2 kNe (xFz (xCall sp_near_row xNoE (xArg (xFz (xTup (xCons (xMove 1) xNil))) (xArg (x2 cIx (xView 7) (xC (.int 0))) xANil)))) (xFz (xTup (xCons (xD (x2 cIx (xView 7) (xC (.int 1)))) (xCons (xD (x2 cIx (xView 7) (xC (.int 2)))) xNil)))))) (xMove 7) [7])) (xFz (xLst xNil)))) (xRet (xD (xC (.bool false)))) xNext)
  (xSeq L1_law_right_5
  (xRet (xD (xC (.bool true)))))))))))))

def sp_law_right_5 : Sp3 := fun ts Q _ => ∃ n a dl A B, ts = [.own a dl, .d (prI (A, B))] ∧ DeckOk (n + 6000) dl ∧ 0 ≤ A ∧ A ≤ 10000000000000000 ∧ 0 < B ∧ B ≤ 10000000000000000 ∧ ∀ dl', DeckOk n dl' → Q (.d (.bool true)) [.own a dl', .d (prI (A, B))]
theorem v_law_right_5 (ts Q E) (h : sp_law_right_5 ts Q E) : body_law_right_5 { nx := fun r => finOk ts r ∧ Q (.d .none) (finF ts r), rt := fun x r => finOk ts r ∧ Q x (finF ts r) } (start3 N_law_right_5 ts) := by
  obtain ⟨n, a, dl, A, B, rfl, hd, hA, hA2, hB, hB2, q⟩ := h
  have hb : 100000 < sizeLine := by decide
  have szn : ∀ x : Int, -100000000000000000000 ≤ x → x ≤ 100000000000000000000 → Sz 1800 x := fun x h0 h1 => by unfold Sz; exact Nat.lt_of_lt_of_le (show x.natAbs < 2 ^ 80 by omega) (Nat.pow_le_pow_right (by decide) (by decide))
  have okk : ∀ A B : Int, -100000000000000000000 ≤ A → A ≤ 100000000000000000000 → 0 < B → B ≤ 100000000000000000000 → OkA [(A, B)] := fun A B h1 h2 h3 h4 p hp => by rw [List.mem_singleton.mp hp]; exact ⟨h3, (szn _ h1 h2).mono (by decide), (szn _ (by omega) h4).mono (by decide)⟩
  have ok := okk A B (by omega) (by omega) hB (by omega)
  have hlen : ∀ z : Int × Int, [z].length ≤ 1000 := fun _ => (show 1 ≤ 1000 by decide)
  have hne : ∀ z : Int × Int, [z] ≠ [] := fun _ => List.cons_ne_nil _ _
  have sA := szn A (by omega) (by omega)
  have sB := szn B (by omega) (by omega)
  refine ⟨rfl, nd0, A, B, rfl, hB, sA, sB, fun pf m hm1 hm2 hm0 hml hmn _ => ⟨nvs_map _ _, ?_⟩⟩
  rw [fz_bT]
  have hmB : (m : Int) ≤ B := by
    have := (inL_pos (A := A) hB).2
    omega
  have bo := bestL_ok ok m
  have items : ∀ {ns : List Int} {l : List (Int × Int)} {i : Nat} {x : PyData}, (ns.map fun q => trD l q)[i]? = some x → ∃ u, ns[i]? = some u ∧ x = trD l u := fun h => get_fun h
  refine ⟨nd1, n + 5999, a, dl, _, rfl, hd, by decide, by decide, fun x1 l1 h10 h11 hd1 => ?_⟩
  have t1 : -400 ≤ x1 - 400 := by omega
  have t2 : x1 - 400 ≤ 400 := by omega
  have tB1 : (x1 - 400) * B ≤ 400 * B := Int.mul_le_mul_of_nonneg_right t2 (by omega)
  have tB2 : (-400) * B ≤ (x1 - 400) * B := Int.mul_le_mul_of_nonneg_right t1 (by omega)
  have cmp : ∀ {x y : PyData}, x = y → Nest 8 y → SeqAt.shaped x = true ∧ SeqAt.shaped y = true ∧ (!PyData.eqv x y) = false := fun {x y} e hn => by
    subst e
    have sh := nest_shaped hn (by decide)
    exact ⟨sh, sh, by rw [eqv_self hn]; rfl⟩
  have lt5 : ∀ {α : Type} (f : Int → α) (i : Nat), (((bestL [(A, B)] m).take i).map f).length < sizeLine := fun f i => by rw [List.length_map, List.length_take]; omega
  have tk : ∀ (f : Int → T) (i : Nat) (u : Int), (bestL [(A, B)] m)[i]? = some u → ((bestL [(A, B)] m).take i).map f ++ [f u] = ((bestL [(A, B)] m).take (i + 1)).map f := fun f i u hu => by rw [take_succ hu, List.map_append]; rfl
  have nl : ∀ (f : Int → PyData), (∀ u, Nest 7 (f u)) → Nest 8 (.list ((bestL [(A, B)] m).map f)) := fun f hf => ⟨by rw [List.length_map]; omega, fun y hy => by obtain ⟨z, _, rfl⟩ := List.mem_map.mp hy; exact hf z⟩
  have fzl : ∀ (p : Addr) (f : Int → PyData) (ns : List Int), fz (T.own p (ns.map fun q => T.d (f q))) = .list (ns.map f) := fun p f ns => by
    show PyData.list (fzs (ns.map fun q => T.d (f q))) = _
    rw [fzs_map]
  refine ⟨mulOkL (by omega) (by omega), sz 2, nd0, A + (x1 - 400) * B, B, rfl, hB, szn _ (by omega) (by omega), sB, fun pf2 m2 km1 km2 km0 kml kmn _ => ⟨nvs_map _ _, fun pc => ⟨fun i acc r => r = [some (.own a l1), some (.d (prI (A, B))), some (.d (.int A)), some (.d (.int B)), some (.d (bD [(A, B)] (bestL [(A, B)] m))), some (.d (.int (x1 - 400))), none, none, none, none, none, none] ∧ acc = ((bestL [(A, B)] m).take i).map (fun q => T.d (.tuple [.int q, .tuple [.int ((near (q * A) B).1 + q * (x1 - 400))], prI (missL [(A, B)] q)])), ⟨rfl, rfl⟩, fun i x acc r hx hW => ?_, fun acc r hW => ?_⟩⟩⟩
  · obtain ⟨rfl, rfl⟩ := hW
    obtain ⟨u, hu, rfl⟩ := items hx
    exact ⟨rfl, fun _ => ⟨_, rfl, mulOkR (by omega) (by omega), sz 1, sz 3, lt5 _ _, rfl, tk _ i u hu⟩, nofun⟩
  obtain ⟨rfl, hacc⟩ := hW
  rw [List.length_map, List.take_length] at hacc
  subst hacc
  refine ⟨nvs_map (fun (q : Int) => PyData.tuple [.int q, .tuple [.int ((near (q * A) B).1 + q * (x1 - 400))], prI (missL [(A, B)] q)]) _, ?_⟩
  have mA : ∀ q, missL [(A + (x1 - 400) * B, B)] q = missL [(A, B)] q := fun q => miss_one hB hB (by
    rw [show q * (A + (x1 - 400) * B) = q * A + (q * (x1 - 400)) * B by grind, near_add _ _ _ hB])
  have rA : ∀ q, rowF [(A + (x1 - 400) * B, B)] q = [(near (q * A) B).1 + q * (x1 - 400)] := fun q => by
    show [(near (q * (A + (x1 - 400) * B)) B).1] = _
    rw [show q * (A + (x1 - 400) * B) = q * A + (q * (x1 - 400)) * B by grind, near_add _ _ _ hB]
  have eA : bD [(A + (x1 - 400) * B, B)] (bestL [(A + (x1 - 400) * B, B)] m2) = .list ((bestL [(A, B)] m).map fun (q : Int) => PyData.tuple [.int q, .tuple [.int ((near (q * A) B).1 + q * (x1 - 400))], prI (missL [(A, B)] q)]) := by
    rw [best_same ok mA hm0 hml km0 kml]
    unfold bD trD
    simp only [mA, rA]
    rfl
  obtain ⟨s1, s2, s3⟩ := cmp eA (nl _ fun u => ⟨show 3 < sizeLine by decide, fun y hy => by
    simp only [List.mem_cons, List.not_mem_nil, or_false] at hy
    rcases hy with rfl | rfl | rfl
    · exact ⟨⟩
    · exact ⟨show 1 < sizeLine by decide, fun z hz => by rw [List.mem_singleton.mp hz]; exact ⟨⟩⟩
    · exact nest_pr _⟩)
  rw [fz_bT, fzl pc (fun (q : Int) => PyData.tuple [.int q, .tuple [.int ((near (q * A) B).1 + q * (x1 - 400))], prI (missL [(A, B)] q)])]
  refine ⟨s1, s2, fun hc => ?_, fun _ => ?_⟩
  · have h3 : (!PyData.eqv _ _) = true := hc
    rw [s3] at h3; cases h3
  clear s1 s2 s3
  -- with the sign turned
  have mB : ∀ q, missL [(0 - A, B)] q = missL [(A, B)] q := fun q => miss_one hB hB (by
    rw [show q * (0 - A) = -(q * A) by grind, near_neg _ _ hB])
  have n2 : ∀ u : Int, Nest 7 (.tuple [.int u, prI (missL [(A, B)] u)]) := fun u => ⟨show 2 < sizeLine by decide, fun y hy => by
    simp only [List.mem_cons, List.not_mem_nil, or_false] at hy
    rcases hy with rfl | rfl
    · exact ⟨⟩
    · exact nest_pr _⟩
  refine ⟨sz 2, nd0, 0 - A, B, rfl, hB, szn _ (by omega) (by omega), sB, fun pf3 m3 a1 a2 a3 a4 a5 _ => ⟨nvs_map _ _, fun pd => ⟨fun i acc r => r = [some (.own a l1), some (.d (prI (A, B))), some (.d (.int A)), some (.d (.int B)), some (.d (bD [(A, B)] (bestL [(A, B)] m))), some (.d (.int (x1 - 400))), none, none, none, none, none, none] ∧ acc = ((bestL [(0 - A, B)] m3).take i).map (fun q => T.d (.tuple [.int q, prI (missL [(0 - A, B)] q)])), ⟨rfl, rfl⟩, fun i x acc r hx hW => ?_, fun acc r hW => ?_⟩⟩⟩
  · obtain ⟨rfl, rfl⟩ := hW
    obtain ⟨u, hu, rfl⟩ := get_fz (f := fun q => trD [(0 - A, B)] q) hx
    exact ⟨rfl, fun _ => ⟨sz 2, by rw [List.length_map, List.length_take]; omega, rfl, by rw [take_succ hu, List.map_append]; rfl⟩, nofun⟩
  obtain ⟨rfl, hacc⟩ := hW
  rw [fzs_map, List.length_map, List.take_length] at hacc
  subst hacc
  refine ⟨nvs_map (fun (q : Int) => PyData.tuple [.int q, prI (missL [(0 - A, B)] q)]) _, fun pe => ⟨fun i acc r => r = [some (.own a l1), some (.d (prI (A, B))), some (.d (.int A)), some (.d (.int B)), some (.d (bD [(A, B)] (bestL [(A, B)] m))), some (.d (.int (x1 - 400))), none, none, none, none, none, none] ∧ acc = ((bestL [(A, B)] m).take i).map (fun q => T.d (.tuple [.int q, prI (missL [(A, B)] q)])), ⟨rfl, rfl⟩, fun i x acc r hx hW => ?_, fun acc r hW => ?_⟩⟩
  · obtain ⟨rfl, rfl⟩ := hW
    obtain ⟨u, hu, rfl⟩ := items hx
    exact ⟨rfl, fun _ => ⟨sz 2, lt5 _ _, rfl, tk _ i u hu⟩, nofun⟩
  obtain ⟨rfl, hacc⟩ := hW
  rw [List.length_map, List.take_length] at hacc
  subst hacc
  refine ⟨nvs_map (fun (q : Int) => PyData.tuple [.int q, prI (missL [(A, B)] q)]) _, ?_⟩
  rw [fzl pd (fun (q : Int) => PyData.tuple [.int q, prI (missL [(0 - A, B)] q)]), fzl pe (fun (q : Int) => PyData.tuple [.int q, prI (missL [(A, B)] q)])]
  have eB : PyData.list ((bestL [(0 - A, B)] m3).map fun (q : Int) => PyData.tuple [.int q, prI (missL [(0 - A, B)] q)]) = .list ((bestL [(A, B)] m).map fun (q : Int) => PyData.tuple [.int q, prI (missL [(A, B)] q)]) := by
    rw [best_same ok mB hm0 hml a3 a4]
    simp only [mB]
  obtain ⟨s1, s2, s3⟩ := cmp eB (nl _ n2)
  refine ⟨s1, s2, fun hc => ?_, fun _ => ?_⟩
  · have h3 : (!PyData.eqv _ _) = true := hc
    rw [s3] at h3; cases h3
  clear s1 s2 s3
  -- not in least numbers; read from its text
  have scl : ∀ {a b k : Int}, 0 < k → 0 < b → ∀ q, trD [(k * a, k * b)] q = trD [(a, b)] q := fun {a b k} h1 h2 q => trD_congr (scale_one h1 h2 q).1 (scale_one h1 h2 q).2
  have nbD : Nest 8 (bD [(A, B)] (bestL [(A, B)] m)) := nest_bD (n := 4) (hlen _) (by omega)
  have okT : OkT (A, B) := ⟨hB, Nat.lt_of_lt_of_le (show A.natAbs < 10 ^ 30 by omega) (Nat.pow_le_pow_right (by decide) (by decide)), Nat.lt_of_lt_of_le (show B.natAbs < 10 ^ 30 by omega) (Nat.pow_le_pow_right (by decide) (by decide))⟩
  have ip := inL_pos (A := A) hB
  have ia := inL_abs (a := A) hB
  refine ⟨mulOkR (by decide) (by decide), mulOkR (by decide) (by decide), sz 2, nd0, A * 8, B * 8, rfl, by omega, szn _ (by omega) (by omega), szn _ (by omega) (by omega), fun pf4 m4 b1 b2 b3 b4 b5 _ => ⟨nvs_map _ _, ?_⟩⟩
  rw [fz_bT]
  have eC : bD [(A * 8, B * 8)] (bestL [(A * 8, B * 8)] m4) = bD [(A, B)] (bestL [(A, B)] m) := by
    have sc := fun q => scale_one (a := A) (b := B) (k := 8) (by decide) hB q
    have hc8 : ([(A * 8, B * 8)] : List (Int × Int)) = [(8 * A, 8 * B)] := by rw [Int.mul_comm A, Int.mul_comm B]
    rw [hc8] at b3 b4 ⊢
    rw [best_same ok (fun q => (sc q).1) hm0 hml b3 b4]
    exact bD_congr _ fun q => scl (by decide) hB q
  obtain ⟨s1, s2, s3⟩ := cmp eC nbD
  refine ⟨s1, s2, fun hc => ?_, fun _ => ?_⟩
  · have h3 : (!PyData.eqv _ _) = true := hc
    rw [s3] at h3; cases h3
  clear s1 s2 s3
  have okT2 : ∀ z ∈ [(A, B)].map leastP, OkT z := fun z hz => by
    rw [List.mem_singleton.mp hz]; exact okT_least okT
  refine ⟨sz 1, nd0, [(A, B)], rfl, hne _, (show 1 ≤ 10 by decide), fun z hz => by rw [List.mem_singleton.mp hz]; exact okT, nd0, [(A, B)].map leastP, rfl, by simp, (show 1 ≤ 10 by decide), okT2, _, rfl, nd0, (inL A B).1, (inL A B).2, ?_, ip.1, szn _ (by omega) (by omega), szn _ (by omega) (by omega), fun pf5 m5 c1 c2 c3 c4 c5 _ => ⟨nvs_map _ _, ?_⟩⟩
  · show [T.d (prI (inL (inL A B).1 (inL A B).2))] = _
    rw [inL_idem hB]
  rw [fz_bT]
  have eD : bD [((inL A B).1, (inL A B).2)] (bestL [((inL A B).1, (inL A B).2)] m5) = bD [(A, B)] (bestL [(A, B)] m) := by
    have hg : 0 < (Int.gcd A B : Int) := by
      have : Int.gcd A B ≠ 0 := fun e => by rw [Int.gcd_eq_zero_iff] at e; omega
      omega
    have eA2 : A = Int.gcd A B * (inL A B).1 := (Int.mul_ediv_cancel' (Int.gcd_dvd_left ..)).symm
    have eB2 : B = Int.gcd A B * (inL A B).2 := (Int.mul_ediv_cancel' (Int.gcd_dvd_right ..)).symm
    have sc : ∀ q, missL [(A, B)] q = missL [((inL A B).1, (inL A B).2)] q ∧ rowF [(A, B)] q = rowF [((inL A B).1, (inL A B).2)] q := fun q => by
      have := scale_one (a := (inL A B).1) (b := (inL A B).2) hg ip.1 q
      rw [← eA2, ← eB2] at this
      exact this
    rw [best_same ok (fun q => (sc q).1.symm) hm0 hml c3 c4]
    exact bD_congr _ fun q => trD_congr (sc q).1.symm (sc q).2.symm
  obtain ⟨s1, s2, s3⟩ := cmp eD nbD
  refine ⟨s1, s2, fun hc => ?_, fun _ => ?_⟩
  · have h3 : (!PyData.eqv _ _) = true := hc
    rw [s3] at h3; cases h3
  clear s1 s2 s3
  -- the near rows
  refine fun pg => ⟨fun i acc r => r = [some (.own a l1), some (.d (prI (A, B))), some (.d (.int A)), some (.d (.int B)), some (.d (bD [(A, B)] (bestL [(A, B)] m))), some (.d (.int (x1 - 400))), none, none, none, none, none, none] ∧ acc = [], ⟨rfl, rfl⟩, fun i x acc r hx hW => ?_, fun acc r hW => ?_⟩
  · obtain ⟨rfl, rfl⟩ := hW
    obtain ⟨u, hu, rfl⟩ := items hx
    obtain ⟨u1, u2⟩ := bestL_mem (List.mem_of_getElem? hu)
    have sn : SeqAt.shaped (nrD [(A, B)] u) = true := nest_shaped (nest_nr _ u (hlen _)) (by decide)
    refine ⟨sz 1, _, rfl, nd0, [(A, B)], u, rfl, hne _, hlen _, ok, u1, (szn _ (by omega) (by omega)).mono (by decide), _, rfl, _, rfl, sz 2, sn, sn, fun hc => ?_, fun _ => ⟨rfl, rfl⟩⟩
    have h3 : (!PyData.eqv (nrD [(A, B)] u) (nrD [(A, B)] u)) = true := hc
    rw [eqv_self (nest_nr _ u (hlen _))] at h3; cases h3
  obtain ⟨rfl, rfl⟩ := hW
  refine ⟨rfl, sz 0, fun p2 => ⟨rfl, shp_nilL, shp_nilL, nofun, fun _ => ?_⟩⟩
  -- between two neighbours
  have cut := cut_one (l := (bestL [(A, B)] m).map fun q => trD [(A, B)] q) (by
    have := (List.getElem?_eq_some_iff.mp (bo.head hm1)).1
    rw [List.length_map]; exact this)
  have mo : ∀ x : Int, Sz 2000 (missL [(A, B)] x).1 ∧ Sz 2000 (missL [(A, B)] x).2 := fun x => ⟨(missL_ok ok).2.2.1, (missL_ok ok).2.2.2⟩
  refine fun pz => ⟨nvs_d _, fun i r => ∃ dl' s6 s7 s8 s9, r = [some (.own a dl'), some (.d (prI (A, B))), some (.d (.int A)), some (.d (.int B)), some (.d (bD [(A, B)] (bestL [(A, B)] m))), some (.d (.int (x1 - 400))), s6, s7, s8, s9, none, none] ∧ DeckOk (n + (5000 - i)) dl' ∧ i ≤ 5000, ⟨l1, _, _, _, _, rfl, hd1.mono (by omega), by omega⟩, fun i x r hx hW => ?_, fun r hW => ?_⟩
  · obtain ⟨dl', s6, s7, s8, s9, rfl, hd', hi⟩ := hW
    rw [cut, fzs_d] at hx
    obtain ⟨w, u, hw, hu, rfl⟩ := pairs_at hx
    obtain ⟨w1, wu, un, hless, hno⟩ := bo.next i w u hw hu
    have hi1 : i + 1 < (bestL [(A, B)] m).length := (List.getElem?_eq_some_iff.mp hu).1
    have e1 : n + (5000 - i) = n + (5000 - (i + 1)) + 1 := by omega
    rw [e1] at hd'
    refine ⟨rfl, _, rfl, _, rfl, _, rfl, nd1, _, a, dl', u - w, rfl, hd', by omega, by omega, fun x dl2 hx0 hx1 hd2 => ?_⟩
    have hl2 : lessM [(A, B)] w (w + x) = false := by
      by_cases e : x = 0
      · rw [e, Int.add_zero]; exact lessM_self _ _
      · exact hno (w + x) (by omega) (by omega)
    refine ⟨sz 1, nd0, [(A, B)], w + x, rfl, hne _, hlen _, ok, by omega, (szn _ (by omega) (by omega)).mono (by decide), _, rfl, _, rfl, _, rfl, _, rfl, mulOk (mo _).1 (mo _).2 (by decide), _, rfl, _, rfl, _, rfl, mulOk (mo _).1 (mo _).2 (by decide), fun hc => ?_, fun _ => ⟨dl2, _, _, _, _, rfl, hd2, by omega⟩⟩
    rw [show lessM [(A, B)] w (w + x) = true from hc] at hl2
    cases hl2
  · obtain ⟨dl', s6, s7, s8, s9, rfl, hd', hi⟩ := hW
    exact ⟨⟨rfl, ⟨⟩⟩, q dl' (hd'.mono (by omega))⟩
def L1_law_14 : TS3 := (xFor (xR1 (xC (.int 10))) (xGName 2) (xSeq (xAsg (xCall sp_law_fraction_1 xNoE (xIo 1 xANil)) (xGTup 2 (xGCons (xGName 3) (xGCons (xGName 4) xGNil))))
  (xIfS (xNot (xTest (xFz (xCall sp_law_right_5 xNoE (xIo 1 (xArg (xFz (xTup (xCons (xD (x2 kMod (xView 3) (x2 kPow (xC (.int 10)) (xC (.int 16))))) (xCons (xD (x2 kAdd (x2 kMod (xView 4) (x2 kPow (xC (.int 10)) (xC (.int 16)))) (xC (.int 1)))) xNil)))) xANil)))))) (xRet (xD (xC (.bool false)))) xNext)))
def N_law_14 : List Str := ["_law_script", "_law_deck_here", "_law_turn", "_law_above", "_law_below_here"]
def body_law_14 : TS3 := (xSeq (xAsg (xCall sp_law_deck xNoE (xArg (xView 0) xANil)) (xGName 1))
  (xSeq L1_law_14
  (xRet (xD (xC (.bool true))))))

theorem v_law_14 (ts Q E) (h : spLaw ts Q E) : body_law_14 { nx := fun r => finOk ts r ∧ Q (.d .none) (finF ts r), rt := fun x r => finOk ts r ∧ Q x (finF ts r) } (start3 N_law_14 ts) := by
  obtain ⟨a, ns, rfl, hl, q⟩ := h
  have p16 : CPow 10 16 := ⟨by decide, by decide, by decide⟩
  refine ⟨nd0, a, ns, rfl, hl, fun dk l0 hd0 => ?_⟩
  refine ⟨by decide, by decide, fun i r => ∃ l b c d, r = [some (.sc a ns), some (.own dk l), b, c, d] ∧ i ≤ 10 ∧ DeckOk (10000 + (10 - i) * 10000) l, ⟨l0, _, _, _, rfl, by decide, hd0.mono (by decide)⟩, fun i x r hx hW => ?_, fun r hW => ?_⟩
  · obtain ⟨l, b, c, d, rfl, hi, hd⟩ := hW
    obtain ⟨hi4, rfl⟩ := rangeI_get hx
    have hi4' : i < 10 := hi4
    refine ⟨nd1, 10000 + (9 - i) * 10000 + 9000, dk, l, rfl, hd.mono (by omega), fun z l1 hz hd1 => ?_⟩
    have e16 : (10 : Int) ^ (16 : Int).toNat = 10000000000000000 := by decide +kernel
    have a0 := Int.emod_nonneg z.1 (show ((10 : Int) ^ (16 : Int).toNat) ≠ 0 by rw [e16]; decide)
    have a1 := Int.emod_lt_of_pos z.1 (show (0 : Int) < 10 ^ (16 : Int).toNat by rw [e16]; decide)
    have b0 := Int.emod_nonneg z.2 (show ((10 : Int) ^ (16 : Int).toNat) ≠ 0 by rw [e16]; decide)
    have b1 := Int.emod_lt_of_pos z.2 (show (0 : Int) < 10 ^ (16 : Int).toNat by rw [e16]; decide)
    have hp : (0 : Int) < 10 ^ (16 : Int).toNat := by rw [e16]; decide
    exact ⟨rfl, p16, hp, p16, hp, sz 2, nd1, 10000 + (9 - i) * 10000, dk, l1, _, _, rfl, hd1.mono (by omega), a0, by omega, by omega, by omega, fun dl' hd2 => ⟨nofun, fun _ => ⟨dl', _, _, _, rfl, by omega, hd2.mono (by omega)⟩⟩⟩
  · obtain ⟨l, b, c, d, rfl, hi, hd⟩ := hW
    exact ⟨⟨⟩, q _⟩
end L3
namespace L3
open PySem PySem.Spec PyProof.Rows L2 TL
local macro_rules | `(tactic| wtm_at "sh") => `(tactic| conv => whnf)
theorem missL_congr {l l' : List (Int × Int)} {q q' : Int} (h : l.map (offP q) = l'.map (offP q')) : missL l q = missL l' q' := by
  have e : ∀ (q : Int) (l : List (Int × Int)) (m : Int × Int), l.foldl (missS q) m = (l.map (offP q)).foldl (fun m o => if isMore o m = true then o else m) m := by
    intro q l
    induction l with
    | nil => intro m; rfl
    | cons p l ih => intro m; rw [List.foldl_cons, List.map_cons, List.foldl_cons, ih]; rfl
  unfold missL missF
  rw [e, e, h]
theorem leF_inL {x y : Int × Int} (hx : 0 < x.2) (hy : 0 < y.2) (h : leF x y) : leF (inL x.1 x.2) (inL y.1 y.2) := by
  have a1 : Alike (inL x.1 x.2) x := by
    have eA : x.1 = Int.gcd x.1 x.2 * (inL x.1 x.2).1 := (Int.mul_ediv_cancel' (Int.gcd_dvd_left ..)).symm
    have eB : x.2 = Int.gcd x.1 x.2 * (inL x.1 x.2).2 := (Int.mul_ediv_cancel' (Int.gcd_dvd_right ..)).symm
    unfold Alike
    generalize (inL x.1 x.2).1 = a at *
    generalize (inL x.1 x.2).2 = b at *
    generalize (Int.gcd x.1 x.2 : Int) = g at *
    rw [eB, eA]; grind
  have a2 : Alike y (inL y.1 y.2) := by
    have eA : y.1 = Int.gcd y.1 y.2 * (inL y.1 y.2).1 := (Int.mul_ediv_cancel' (Int.gcd_dvd_left ..)).symm
    have eB : y.2 = Int.gcd y.1 y.2 * (inL y.1 y.2).2 := (Int.mul_ediv_cancel' (Int.gcd_dvd_right ..)).symm
    unfold Alike
    generalize (inL y.1 y.2).1 = a at *
    generalize (inL y.1 y.2).2 = b at *
    generalize (Int.gcd y.1 y.2 : Int) = g at *
    rw [eB, eA]; grind
  exact leF_trans (inL_pos hx).1 hx (inL_pos hy).1 (Int.le_of_eq a1) (leF_trans hx hy (inL_pos hy).1 h (Int.le_of_eq a2))
theorem row_len (l : List (Int × Int)) (q : Int) : (rowF l q).length = l.length := by unfold rowF; rw [List.length_map]
theorem ifNe {x y : PyData} (e : x = y) (hn : Nest 8 y) {A B : Prop} (hB : B) : SeqAt.shaped x = true ∧ SeqAt.shaped y = true ∧ (((!PyData.eqv x y) = true → A) ∧ ((!PyData.eqv x y) = false → B)) := by
  subst e
  have sh := nest_shaped hn (by decide)
  refine ⟨sh, sh, fun h => ?_, fun _ => hB⟩
  rw [eqv_self hn] at h; cases h
theorem miss_sub {l l' : List (Int × Int)} {q : Int} (h1 : ∀ p ∈ l, 0 < p.2) (h : ∀ p, p ∈ l ↔ p ∈ l') : missL l q = missL l' q :=
  miss_eq h1 (fun p hp => h1 p ((h p).mpr hp)) (fun p hp => ⟨p, (h p).mp hp, Int.le_refl _⟩) (fun p hp => ⟨p, (h p).mpr hp, Int.le_refl _⟩)
/-- fractions as small as the law makes them -/
def AskS (l : List (Int × Int)) : Prop := l ≠ [] ∧ l.length ≤ 3 ∧ ∀ p ∈ l, 0 < p.2 ∧ p.2 ≤ 10000000000000000 ∧ 0 ≤ p.1 ∧ p.1 ≤ 10000000000000000
theorem szB {x : Int} (h0 : -100000000000000000000000000000 ≤ x) (h1 : x ≤ 100000000000000000000000000000) : Sz 2000 x := by
  unfold Sz; exact Nat.lt_of_lt_of_le (show x.natAbs < 2 ^ 100 by omega) (Nat.pow_le_pow_right (by decide) (by decide))
theorem AskS.ok {l : List (Int × Int)} (h : AskS l) : OkA l := fun p hp => by
  obtain ⟨h1, h2, h3, h4⟩ := h.2.2 p hp
  exact ⟨h1, szB (by omega) (by omega), szB (by omega) (by omega)⟩
def N_law_less_1 : List Str := ["_law_asking_here", "_law_q", "_law_other", "_law_one", "_law_two"]
def body_law_less_1 : TS3 := (xSeq (xPar 3 4 (xCons (xD (x2 cIx (xFz (xCall sp_near_row xNoE (xArg (xView 0) (xArg (xView 1) xANil)))) (xC (.int 1)))) (xCons (xD (x2 cIx (xFz (xCall sp_near_row xNoE (xArg (xView 2) (xArg (xView 1) xANil)))) (xC (.int 1)))) xNil)))
  (xRet (xD (x2 kLe (x2 kMul (x2 cIx (xView 3) (xC (.int 0))) (x2 cIx (xView 4) (xC (.int 1)))) (x2 kMul (x2 cIx (xView 4) (xC (.int 0))) (x2 cIx (xView 3) (xC (.int 1))))))))

def sp_law_less_1 : Sp3 := fun ts Q _ => ∃ l q l', ts = [.d (asD l), .d (.int q), .d (asD l')] ∧ l ≠ [] ∧ l' ≠ [] ∧ l.length ≤ 1000 ∧ l'.length ≤ 1000 ∧ OkA l ∧ OkA l' ∧ 1 ≤ q ∧ Sz 2000 q ∧ (∀ p ∈ l, p ∈ l') ∧ Q (.d (.bool true)) ts
theorem v_law_less_1 (ts Q E) (h : sp_law_less_1 ts Q E) : body_law_less_1 { nx := fun r => finOk ts r ∧ Q (.d .none) (finF ts r), rt := fun x r => finOk ts r ∧ Q x (finF ts r) } (start3 N_law_less_1 ts) := by
  obtain ⟨l, q, l', rfl, h1, h2, h3, h4, o1, o2, hq, sq, sub, k⟩ := h
  have m1 := missL_ok (q := q) o1
  have m2 := missL_ok (q := q) o2
  have hle : (missL l q).1 * (missL l' q).2 ≤ (missL l' q).1 * (missL l q).2 := by
    have p1 : ∀ p ∈ l, 0 < p.2 := fun p hp => (o1 p hp).1
    have p2 : ∀ p ∈ l', 0 < p.2 := fun p hp => (o2 p hp).1
    exact leF_inL (missF_max (q := q) l (0, 1) (by decide) p1).1 (missF_max (q := q) l' (0, 1) (by decide) p2).1 (miss_le (q := q) (q' := q) p1 p2 fun p hp => ⟨p, sub p hp, Int.le_refl _⟩)
  refine ⟨nd0, l, q, rfl, h1, h3, o1, hq, sq, _, rfl, nd0, l', q, rfl, h2, h4, o2, hq, sq, _, rfl, _, rfl, _, rfl, mulOk m1.2.2.1 m2.2.2.2 (by decide), _, rfl, _, rfl, mulOk m2.2.2.1 m1.2.2.2 (by decide), ⟨⟩, ?_⟩
  show Q (.d (.bool (decide _))) _
  rw [decide_eq_true hle]
  exact k
theorem useRest {A B : Prop} (h : A → B) (a : A) : B := h a
theorem cut_head {α : Type} {l : List α} (h : 0 < l.length) : cutL l none (some 1) = l.take 1 := by
  unfold cutL
  have e1 : HT.sIx l.length 0 none = 0 := rfl
  have e2 : HT.sIx l.length l.length (some 1) = 1 := by
    unfold HT.sIx; simp; omega
  rw [e1, e2]
  rfl
theorem cut_last {α : Type} {l : List α} (h : 0 < l.length) : cutL l none (some (-1)) = l.dropLast := by
  unfold cutL
  have e1 : HT.sIx l.length 0 none = 0 := rfl
  have e2 : HT.sIx l.length l.length (some (-1)) = l.length - 1 := by
    unfold HT.sIx; simp; omega
  rw [e1, e2, List.drop_zero, Nat.sub_zero, List.dropLast_eq_take]
theorem zip_at {α β : Type} {f : α → PyData} {g : β → PyData} {l : List α} {m : List β} {i : Nat} {x : PyData} (h : (zipD (l.map f) (m.map g))[i]? = some x) : ∃ p t, l[i]? = some p ∧ m[i]? = some t ∧ x = .tuple [f p, g t] := by
  unfold zipD at h
  rw [List.getElem?_zipWith, List.getElem?_map, List.getElem?_map] at h
  cases e1 : l[i]? with
  | none => rw [e1] at h; cases h
  | some y =>
    cases e2 : m[i]? with
    | none => rw [e1, e2] at h; cases h
    | some z => rw [e1, e2] at h; exact ⟨y, z, rfl, rfl, (Option.some.inj h).symm⟩
theorem zw_at {α β γ : Type} {h : α → β → γ} {l : List α} {m : List β} {i : Nat} {p : α} {t : β} (e1 : l[i]? = some p) (e2 : m[i]? = some t) : (List.zipWith h l m)[i]? = some (h p t) := by
  rw [List.getElem?_zipWith, e1, e2]
theorem zw_done {α β γ : Type} {f : α → PyData} {g : β → PyData} (h : α → β → γ) (l : List α) (m : List β) : (List.zipWith h l m).take (zipD (l.map f) (m.map g)).length = List.zipWith h l m := by
  refine List.take_of_length_le ?_
  unfold zipD
  rw [List.length_zipWith, List.length_zipWith, List.length_map, List.length_map]
  exact Nat.le_refl _
theorem fz_own (p : Addr) {α : Type} (f : α → PyData) (l : List α) : fz (T.own p (l.map fun x => T.d (f x))) = .list (l.map f) := by
  show PyData.list (fzs (l.map fun x => T.d (f x))) = _
  rw [fzs_map]
/-- with whole numbers put to it -/
def movedL (l : List (Int × Int)) (ts : List Int) : List (Int × Int) := List.zipWith (fun p t => (p.1 + t * p.2, p.2)) l ts
def dueL (r ts : List Int) (q : Int) : List Int := List.zipWith (fun w t => w + q * t) r ts
theorem moved_row (q : Int) : ∀ (l : List (Int × Int)) (ts : List Int), (∀ p ∈ l, 0 < p.2) → l.length = ts.length → rowF (movedL l ts) q = dueL (rowF l q) ts q ∧ (movedL l ts).map (offP q) = l.map (offP q)
  | [], [], _, _ => ⟨rfl, rfl⟩
  | p :: l, t :: ts, h, e => by
    have hp := h p (by simp)
    obtain ⟨i1, i2⟩ := moved_row q l ts (fun x hx => h x (List.mem_cons_of_mem _ hx)) (by simpa using e)
    have n : near (q * (p.1 + t * p.2)) p.2 = ((near (q * p.1) p.2).1 + q * t, (near (q * p.1) p.2).2) := by
      rw [show q * (p.1 + t * p.2) = q * p.1 + (q * t) * p.2 by grind, near_add _ _ _ hp]
    refine ⟨?_, ?_⟩
    · show (near (q * (p.1 + t * p.2)) p.2).1 :: rowF (movedL l ts) q = ((near (q * p.1) p.2).1 + q * t) :: dueL (rowF l q) ts q
      rw [n, i1]
    · show ((near (q * (p.1 + t * p.2)) p.2).2, p.2) :: (movedL l ts).map (offP q) = offP q p :: l.map (offP q)
      rw [n, i2]
theorem least_row (q : Int) (l : List (Int × Int)) (h : ∀ p ∈ l, 0 < p.2) : rowF (l.map leastP) q = rowF l q ∧ missL (l.map leastP) q = missL l q := by
  have one : ∀ p ∈ l, 0 < (leastP p).2 ∧ (near (q * (leastP p).1) (leastP p).2).1 = (near (q * p.1) p.2).1 ∧ (near (q * (leastP p).1) (leastP p).2).2 * p.2 = (near (q * p.1) p.2).2 * (leastP p).2 := fun p hp => by
    have hb := h p hp
    have hg : 0 < (Int.gcd p.1 p.2 : Int) := by
      have : Int.gcd p.1 p.2 ≠ 0 := fun e => by rw [Int.gcd_eq_zero_iff] at e; omega
      omega
    have eA : p.1 = Int.gcd p.1 p.2 * (inL p.1 p.2).1 := (Int.mul_ediv_cancel' (Int.gcd_dvd_left ..)).symm
    have eB : p.2 = Int.gcd p.1 p.2 * (inL p.1 p.2).2 := (Int.mul_ediv_cancel' (Int.gcd_dvd_right ..)).symm
    have hb2 := (inL_pos (A := p.1) hb).1
    show 0 < (inL p.1 p.2).2 ∧ (near (q * (inL p.1 p.2).1) (inL p.1 p.2).2).1 = (near (q * p.1) p.2).1 ∧ (near (q * (inL p.1 p.2).1) (inL p.1 p.2).2).2 * p.2 = (near (q * p.1) p.2).2 * (inL p.1 p.2).2
    generalize (inL p.1 p.2).1 = a at *
    generalize (inL p.1 p.2).2 = b at *
    generalize (Int.gcd p.1 p.2 : Int) = g at *
    have e : near (q * p.1) p.2 = ((near (q * a) b).1, g * (near (q * a) b).2) := by
      rw [eB, eA, show q * (g * a) = g * (q * a) by grind]
      exact near_mul _ _ _ hg hb2
    rw [e, eB]
    exact ⟨hb2, rfl, by grind⟩
  refine ⟨?_, miss_eq (fun p hp => ?_) h (fun p hp => ?_) (fun p hp => ?_)⟩
  · unfold rowF
    rw [List.map_map]
    exact List.map_congr_left fun p hp => (one p hp).2.1
  · obtain ⟨z, hz, rfl⟩ := List.mem_map.mp hp
    exact (one z hz).1
  · obtain ⟨z, hz, rfl⟩ := List.mem_map.mp hp
    exact ⟨z, hz, Int.le_of_eq (one z hz).2.2⟩
  · exact ⟨leastP p, List.mem_map.mpr ⟨p, hp, rfl⟩, Int.le_of_eq (one p hp).2.2.symm⟩
theorem nrD_eq {l l' : List (Int × Int)} {q q' : Int} {row : List Int} (h1 : rowF l' q' = row) (h2 : missL l' q' = missL l q) : nrD l' q' = .tuple [.tuple (row.map PyData.int), prI (missL l q)] := by
  unfold nrD
  rw [h1, h2]
theorem nest_row {row : List Int} {m : Int × Int} (h : row.length ≤ 1000) : Nest 8 (.tuple [.tuple (row.map PyData.int), prI m]) := by
  have a : 1000 < sizeLine := by decide
  have a2 : 2 < sizeLine := by decide
  refine ⟨a2, fun x hx => ?_⟩
  rcases List.mem_cons.mp hx with rfl | hx
  · refine ⟨?_, fun y hy => ?_⟩
    · rw [List.length_map]; exact Nat.lt_of_le_of_lt h a
    · obtain ⟨z, _, rfl⟩ := List.mem_map.mp hy
      exact ⟨⟩
  · rw [List.mem_singleton.mp hx]
    refine ⟨a2, fun y hy => ?_⟩
    rcases List.mem_cons.mp hy with rfl | hy
    · exact ⟨⟩
    · rw [List.mem_singleton.mp hy]; exact ⟨⟩
def N_law_right_2 : List Str := ["_law_deck_here", "_law_asking_here", "_law_q", "_law_row", "_law_miss", "_law_put", "_law_moved", "_law_due", "_law_one", "_law_more", "_law_whole", "_law_above", "_law_below_here"]
def body_law_right_2 : TS3 := (xSeq (xAsg (xCall sp_near_row xNoE (xArg (xView 1) (xArg (xView 2) xANil))) (xGTup 2 (xGCons (xGName 3) (xGCons (xGName 4) xGNil))))
  (xSeq (xAsg (xLc (xSeqI (xView 1)) (xGName 8) xYes (xD (x2 kSub (xFz (xCall sp_law_take xNoE (xIo 0 (xArg (xC (.int 2001)) xANil)))) (xC (.int 1000)))) [8]) (xGName 5))
  (xFzS 5 (xSeq (xAsg (xD (x1 cTup (xFz (xLc (xZipX (xView 1) (xView 5)) (xGTup 2 (xGCons (xGName 8) (xGCons (xGName 9) xGNil))) xYes (xTup (xCons (xD (x2 kAdd (x2 cIx (xView 8) (xC (.int 0))) (x2 kMul (xView 9) (x2 cIx (xView 8) (xC (.int 1)))))) (xCons (xD (x2 cIx (xView 8) (xC (.int 1)))) xNil))) [8, 9])))) (xGName 6))
  (xSeq (xAsg (xD (x1 cTup (xFz (xLc (xZipX (xView 3) (xView 5)) (xGTup 2 (xGCons (xGName 10) (xGCons (xGName 9) xGNil))) xYes (xD (x2 kAdd (xView 10) (x2 kMul (xView 2) (xView 9)))) [10, 9])))) (xGName 7))
  (xSeq (xIfS (xTest (x2 kNe (xFz (xCall sp_near_row xNoE (xArg (xView 6) (xArg (xView 2) xANil)))) (xFz (xTup (xCons (xMove 7) (xCons (xMove 4) xNil)))))) (xRet (xD (xC (.bool false)))) xNext)
  (xSeq (xIfS (xTest (x2 kNe (x2 cIx (xFz (xCall sp_near_row xNoE (xArg (x1 cTup (xFz (xLc (xSeqI (xView 1)) (xGTup 2 (xGCons (xGName 11) (xGCons (xGName 12) xGNil))) xYes (xTup (xCons (xD (x2 kSub (xC (.int 0)) (xView 11))) (xCons (xMove 12) xNil))) [11, 12]))) (xArg (xView 2) xANil)))) (xC (.int 1))) (xView 4))) (xRet (xD (xC (.bool false)))) xNext)
  (xSeq (xIfS (xTest (x2 kNe (xFz (xCall sp_near_row xNoE (xArg (xFz (xRevT (xView 1))) (xArg (xView 2) xANil)))) (xFz (xTup (xCons (xRevT (xView 3)) (xCons (xMove 4) xNil)))))) (xRet (xD (xC (.bool false)))) xNext)
  (xSeq (xIfS (xAnd (xTest (x2 kLt (x1 cLen (xView 1)) (xC (.int 3)))) (xTest (x2 kNe (xFz (xCall sp_near_row xNoE (xArg (xFz (x2 cAdd (xView 1) (xFz (xSl (xView 1) xNo (xSome (xC (.int 1))))))) (xArg (xView 2) xANil)))) (xFz (xTup (xCons (x2 cAdd (xView 3) (xFz (xSl (xView 3) xNo (xSome (xC (.int 1)))))) (xCons (xMove 4) xNil))))))) (xRet (xD (xC (.bool false)))) xNext)
  (xSeq (xIfS (xTest (x2 kNe (xFz (xCall sp_near_row xNoE (xArg (xFz (xCall sp_read_asking xNoE (xArg (xFz (xCall sp_asking_shown xNoE (xArg (xView 1) xANil))) xANil))) (xArg (xView 2) xANil)))) (xFz (xTup (xCons (xMove 3) (xCons (xMove 4) xNil)))))) (xRet (xD (xC (.bool false)))) xNext)
  (xRet (xD (xOrV (x2 kLt (x1 cLen (xView 1)) (xC (.int 2))) (xAndV (xFz (xCall sp_law_less_1 xNoE (xArg (xFz (xSl (xView 1) (xSome (xC (.int 1))) xNo)) (xArg (xView 2) (xArg (xView 1) xANil))))) (xFz (xCall sp_law_less_1 xNoE (xArg (xFz (xSl (xView 1) xNo (xSome (xNeg (xC (.int 1)))))) (xArg (xView 2) (xArg (xView 1) xANil)))))))))))))))))))

def sp_law_right_2 : Sp3 := fun ts Q _ => ∃ n a dl l q, ts = [.own a dl, .d (asD l), .d (.int q)] ∧ DeckOk (n + 3) dl ∧ AskS l ∧ 1 ≤ q ∧ q ≤ 20000000000000000000 ∧ ∀ dl', DeckOk n dl' → Q (.d (.bool true)) [.own a dl', .d (asD l), .d (.int q)]
theorem v_law_right_2 (ts Q E) (h : sp_law_right_2 ts Q E) : body_law_right_2 { nx := fun r => finOk ts r ∧ Q (.d .none) (finF ts r), rt := fun x r => finOk ts r ∧ Q x (finF ts r) } (start3 N_law_right_2 ts) := by
  obtain ⟨n, a, dl, l, q, rfl, hd, hl, hq, hq2, k⟩ := h
  have hb : 1000 < sizeLine := by decide
  have ok := hl.ok
  have sq : Sz 2000 q := szB (by omega) (by omega)
  have hlen := hl.2.1
  have hlen2 : l.length ≤ 1000 := by omega
  have hpos : ∀ p ∈ l, 0 < p.2 := fun p hp => (ok p hp).1
  refine ⟨nd0, l, q, rfl, hl.1, hlen2, ok, hq, sq, rfl, fun p1 => ⟨fun i acc r => ∃ dl' ts, r = [some (.own a dl'), some (.d (asD l)), some (.d (.int q)), some (.d (.tuple ((rowF l q).map PyData.int))), some (.d (prI (missL l q))), none, none, none, none, none, none, none, none] ∧ DeckOk (n + (3 - i)) dl' ∧ acc = ts.map (fun x => T.d (.int x)) ∧ ts.length = i ∧ (∀ t ∈ ts, -1000 ≤ t ∧ t ≤ (1000 : Int)), ⟨dl, [], rfl, hd, rfl, rfl, by simp⟩, fun i x acc r hx hW => ?_, fun acc r hW => ?_⟩⟩
  · obtain ⟨dl', ts, rfl, hd', rfl, ht, hts⟩ := hW
    have hi : i < 3 := by
      have := (List.getElem?_eq_some_iff.mp hx).1
      rw [List.length_map] at this; omega
    refine ⟨fun _ => ⟨nd1, n + (2 - i), a, dl', 2001, rfl, hd'.mono (by omega), by decide, by decide, fun x1 l1 h0 h1 hd1 => ⟨by rw [List.length_map]; omega, l1, ts ++ [x1 - 1000], rfl, hd1.mono (by omega), by rw [List.map_append]; rfl, by simp [ht], fun t ht => ?_⟩⟩, nofun⟩
    rcases List.mem_append.mp ht with h | h
    · exact hts t h
    · rw [List.mem_singleton.mp h]; omega
  obtain ⟨dl', ts, rfl, hd', rfl, ht, hts⟩ := hW
  rw [List.length_map] at ht
  have ht' := ht.symm
  refine ⟨nvs_map _ _, ?_⟩
  rw [fz_own p1 PyData.int ts]
  have mp : ∀ p ∈ movedL l ts, 0 < p.2 ∧ p.2 ≤ 10000000000000000 ∧ -10000000000000000000 ≤ p.1 ∧ p.1 ≤ 20000000000000000000 := fun p hp => by
    obtain ⟨i, hi⟩ := List.getElem?_of_mem hp
    unfold movedL at hi
    rw [List.getElem?_zipWith] at hi
    cases e1 : l[i]? with
    | none => rw [e1] at hi; cases hi
    | some z =>
      cases e2 : ts[i]? with
      | none => rw [e1, e2] at hi; cases hi
      | some t =>
        rw [e1, e2] at hi
        cases hi
        obtain ⟨h1, h2, h3, h4⟩ := hl.2.2 z (List.mem_of_getElem? e1)
        obtain ⟨h5, h6⟩ := hts t (List.mem_of_getElem? e2)
        have b1 : t * z.2 ≤ 1000 * z.2 := Int.mul_le_mul_of_nonneg_right h6 (by omega)
        have b2 : (-1000) * z.2 ≤ t * z.2 := Int.mul_le_mul_of_nonneg_right h5 (by omega)
        refine ⟨h1, h2, ?_, ?_⟩
        · show _ ≤ z.1 + t * z.2; omega
        · show z.1 + t * z.2 ≤ _; omega
  have okm : OkA (movedL l ts) := fun p hp => by
    obtain ⟨h1, h2, h3, h4⟩ := mp p hp
    exact ⟨h1, szB (by omega) (by omega), szB (by omega) (by omega)⟩
  have lm : (movedL l ts).length = l.length := by unfold movedL; rw [List.length_zipWith]; omega
  have hmne : movedL l ts ≠ [] := fun e => hl.1 (List.length_eq_zero_iff.mp (by rw [← lm, e]; rfl))
  obtain ⟨mr, mo⟩ := moved_row q l ts hpos (by omega)
  refine ⟨_, _, rfl, rfl, fun p2 => ⟨fun i acc r => r = [some (.own a dl'), some (.d (asD l)), some (.d (.int q)), some (.d (.tuple ((rowF l q).map PyData.int))), some (.d (prI (missL l q))), some (.d (.list (ts.map PyData.int))), none, none, none, none, none, none, none] ∧ acc = ((movedL l ts).take i).map (fun p => T.d (prI p)), ⟨rfl, rfl⟩, fun i x acc r hx hW => ?_, fun acc r hW => ?_⟩⟩
  · obtain ⟨rfl, rfl⟩ := hW
    obtain ⟨p, t, hp, ht, rfl⟩ := zip_at hx
    have b := hts t (List.mem_of_getElem? ht)
    exact ⟨rfl, fun _ => ⟨_, rfl, _, rfl, mulOkL (by omega) (by omega), _, rfl, sz 2, by rw [List.length_map, List.length_take]; omega, rfl, by rw [take_succ (show (movedL l ts)[i]? = some _ from zw_at hp ht), List.map_append]; rfl⟩, nofun⟩
  obtain ⟨rfl, hacc⟩ := hW
  rw [movedL, zw_done, ← movedL] at hacc
  subst hacc
  refine ⟨nvs_map _ _, ?_⟩
  rw [fz_own p2 prI (movedL l ts)]
  refine ⟨_, _, rfl, rfl, fun p3 => ⟨fun i acc r => r = [some (.own a dl'), some (.d (asD l)), some (.d (.int q)), some (.d (.tuple ((rowF l q).map PyData.int))), some (.d (prI (missL l q))), some (.d (.list (ts.map PyData.int))), some (.d (asD (movedL l ts))), none, none, none, none, none, none] ∧ acc = ((dueL (rowF l q) ts q).take i).map (fun p => T.d (.int p)), ⟨rfl, rfl⟩, fun i x acc r hx hW => ?_, fun acc r hW => ?_⟩⟩
  · obtain ⟨rfl, rfl⟩ := hW
    obtain ⟨p, t, hp, ht, rfl⟩ := zip_at hx
    have b := hts t (List.mem_of_getElem? ht)
    exact ⟨rfl, fun _ => ⟨mulOkR (by omega) (by omega), by
      rw [List.length_map, List.length_take]
      have : (dueL (rowF l q) ts q).length ≤ (rowF l q).length := by unfold dueL; rw [List.length_zipWith]; omega
      rw [row_len] at this
      omega, rfl, by rw [take_succ (show (dueL (rowF l q) ts q)[i]? = some _ from zw_at hp ht), List.map_append]; rfl⟩, nofun⟩
  obtain ⟨rfl, hacc⟩ := hW
  rw [dueL, zw_done, ← dueL] at hacc
  subst hacc
  refine ⟨nvs_map _ _, ?_⟩
  rw [fz_own p3 PyData.int (dueL (rowF l q) ts q)]
  have ldue : (dueL (rowF l q) ts q).length ≤ 1000 := by rw [← mr, row_len]; omega
  -- with whole numbers put to it
  refine ⟨nd0, movedL l ts, q, rfl, hmne, by omega, okm, hq, sq, sz 2, ifNe (nrD_eq mr (missL_congr mo)) (nest_row ldue) ?_⟩
  -- with the signs turned
  refine fun p4 => ⟨fun i acc r => r = [some (.own a dl'), some (.d (asD l)), some (.d (.int q)), some (.d (.tuple ((rowF l q).map PyData.int))), some (.d (prI (missL l q))), some (.d (.list (ts.map PyData.int))), some (.d (asD (movedL l ts))), some (.d (.tuple ((dueL (rowF l q) ts q).map PyData.int))), none, none, none, none, none] ∧ acc = (l.take i).map (fun p => T.d (prI (0 - p.1, p.2))), ⟨rfl, rfl⟩, fun i x acc r hx hW => ?_, fun acc r hW => ?_⟩
  · obtain ⟨rfl, rfl⟩ := hW
    obtain ⟨p, hp, rfl⟩ := get_fun hx
    exact ⟨rfl, fun _ => ⟨sz 2, by rw [List.length_map, List.length_take]; omega, rfl, by rw [take_succ hp, List.map_append]; rfl⟩, nofun⟩
  obtain ⟨rfl, hacc⟩ := hW
  rw [List.length_map, List.take_length] at hacc
  subst hacc
  refine ⟨nvs_map (fun p : Int × Int => prI (0 - p.1, p.2)) _, ?_⟩
  rw [fz_own p4 (fun p : Int × Int => prI (0 - p.1, p.2)) l]
  have eneg : l.map (fun p : Int × Int => prI (0 - p.1, p.2)) = (l.map fun p : Int × Int => (0 - p.1, p.2)).map prI := by rw [List.map_map]; rfl
  rw [eneg]
  have okn : OkA (l.map fun p : Int × Int => (0 - p.1, p.2)) := fun z hz => by
    obtain ⟨p, hp, rfl⟩ := List.mem_map.mp hz
    obtain ⟨h1, h2, h3, h4⟩ := hl.2.2 p hp
    exact ⟨h1, szB (show _ ≤ 0 - p.1 by omega) (show 0 - p.1 ≤ _ by omega), szB (by omega) (by omega)⟩
  have en : missL (l.map fun p : Int × Int => (0 - p.1, p.2)) q = missL l q := missL_congr (by
    rw [List.map_map]
    refine List.map_congr_left fun p hp => ?_
    show ((near (q * (0 - p.1)) p.2).2, p.2) = _
    rw [show q * (0 - p.1) = -(q * p.1) by grind, near_neg _ _ (hpos p hp)])
  refine ⟨nd0, _, q, rfl, by simpa using hl.1, by rw [List.length_map]; exact hlen2, okn, hq, sq, _, rfl, ifNe (by rw [en]) (nest_pr (n := 6) _) ?_⟩
  -- turned about
  have rv : rowF l.reverse q = (rowF l q).reverse ∧ missL l.reverse q = missL l q := ⟨by unfold rowF; rw [List.map_reverse], miss_sub (fun p hp => hpos p (List.mem_reverse.mp hp)) fun p => List.mem_reverse⟩
  refine ⟨nd0, l.reverse, q, by show [T.d (.tuple (l.map prI).reverse), _] = _; rw [← List.map_reverse], by simpa using hl.1, by rw [List.length_reverse]; exact hlen2, fun p hp => ok p (List.mem_reverse.mp hp), hq, sq, sz 2, ifNe (by rw [← List.map_reverse]; exact nrD_eq rv.1 rv.2) (by rw [← List.map_reverse]; exact nest_row (by rw [List.length_reverse, row_len]; exact hlen2)) ?_⟩
  have hl0 : 0 < l.length := List.length_pos_iff.mpr hl.1
  -- one of them told twice
  have tw : rowF (l ++ l.take 1) q = rowF l q ++ (rowF l q).take 1 ∧ missL (l ++ l.take 1) q = missL l q := ⟨by unfold rowF; rw [List.map_append, List.map_take], (miss_sub hpos fun p => ⟨fun h => List.mem_append_left _ h, fun h => (List.mem_append.mp h).elim id fun h => List.mem_of_mem_take h⟩).symm⟩
  have lt1 : (l.take 1).length ≤ 1 := List.length_take_le ..
  have tr1 : ((rowF l q).take 1).length ≤ 1 := List.length_take_le ..
  have c1 : cutL (l.map prI) none (some 1) = (l.take 1).map prI := by rw [cut_head (by rw [List.length_map]; exact hl0), List.map_take]
  have c2 : cutL ((rowF l q).map PyData.int) none (some 1) = ((rowF l q).take 1).map PyData.int := by rw [cut_head (by rw [List.length_map, row_len]; exact hl0), List.map_take]
  refine useRest (fun rest => ⟨fun hc => ⟨by rw [c1, List.length_map, List.length_map]; exact Nat.le_trans (show l.length + (l.take 1).length ≤ 1000 by omega) (by decide), nd0, l ++ l.take 1, q, by rw [c1, ← List.map_append], by simp [hl.1], by rw [List.length_append]; omega, fun p hp => (List.mem_append.mp hp).elim (ok p) fun h => ok p (List.mem_of_mem_take h), hq, sq, by rw [c2, List.length_map, List.length_map, row_len]; exact Nat.le_trans (show l.length + ((rowF l q).take 1).length ≤ 1000 by omega) (by decide), sz 2, ifNe (by rw [c2, ← List.map_append]; exact nrD_eq tw.1 tw.2) (by rw [c2, ← List.map_append]; exact nest_row (by rw [List.length_append, row_len]; omega)) rest⟩, fun _ => ⟨nofun, fun _ => rest⟩⟩) ?_
  -- read from its text
  have okT : ∀ p ∈ l, OkT p := fun p hp => by
    obtain ⟨h1, h2, h3, h4⟩ := hl.2.2 p hp
    exact ⟨h1, Nat.lt_of_lt_of_le (show p.1.natAbs < 10 ^ 30 by omega) (Nat.pow_le_pow_right (by decide) (by decide)), Nat.lt_of_lt_of_le (show p.2.natAbs < 10 ^ 30 by omega) (Nat.pow_le_pow_right (by decide) (by decide))⟩
  have okT2 : ∀ z ∈ l.map leastP, OkT z := fun z hz => by
    obtain ⟨p, hp, rfl⟩ := List.mem_map.mp hz
    exact okT_least (okT p hp)
  have ll : (l.map leastP).map leastP = l.map leastP := by
    rw [List.map_map]
    exact List.map_congr_left fun p hp => inL_idem (hpos p hp)
  obtain ⟨lr, lm2⟩ := least_row q l hpos
  have okl : OkA (l.map leastP) := fun z hz => by
    obtain ⟨p, hp, rfl⟩ := List.mem_map.mp hz
    obtain ⟨h1, h2, h3⟩ := ok p hp
    have ia := inL_abs (a := p.1) h1
    exact ⟨(inL_pos (A := p.1) h1).1, Nat.lt_of_le_of_lt ia.1 h2, Nat.lt_of_le_of_lt ia.2 h3⟩
  refine ⟨nd0, l, rfl, hl.1, by omega, okT, nd0, l.map leastP, rfl, by simpa using hl.1, by rw [List.length_map]; omega, okT2, nd0, l.map leastP, q, by rw [show (fun p : Int × Int => inL p.1 p.2) = leastP from rfl, ll], by simpa using hl.1, by rw [List.length_map]; exact hlen2, okl, hq, sq, sz 2, ifNe (nrD_eq lr lm2) (nest_row (by rw [row_len]; exact hlen2)) ?_⟩
  -- one less
  refine ⟨fun _ => ⟨⟨rfl, ⟨⟩⟩, k dl' (hd'.mono (by omega))⟩, fun hc => ?_⟩
  have h2 : 2 ≤ l.length := by
    have := dF hc
    rw [List.length_map] at this
    omega
  have c3 : cutL (l.map prI) (some 1) none = (l.drop 1).map prI := by rw [cut_one (by rw [List.length_map]; exact hl0), List.map_drop]
  have c4 : cutL (l.map prI) none (some (-1)) = l.dropLast.map prI := by rw [cut_last (by rw [List.length_map]; exact hl0), List.map_dropLast]
  refine ⟨nd0, l.drop 1, q, l, by rw [c3], fun e => by have := congrArg List.length e; rw [List.length_drop] at this; simp at this; omega, hl.1, by rw [List.length_drop]; omega, hlen2, fun p hp => ok p (List.mem_of_mem_drop hp), ok, hq, sq, fun p hp => List.mem_of_mem_drop hp, fun _ => ?_, nofun⟩
  exact ⟨nd0, l.dropLast, q, l, by rw [c4], fun e => by have := congrArg List.length e; rw [List.length_dropLast] at this; simp at this; omega, hl.1, by rw [List.length_dropLast]; omega, hlen2, fun p hp => ok p ((List.dropLast_sublist l).subset hp), ok, hq, sq, fun p hp => (List.dropLast_sublist l).subset hp, ⟨rfl, ⟨⟩⟩, k dl' (hd'.mono (by omega))⟩
/-! ### under a common number below -/
theorem off_zero {l : List (Int × Int)} {q : Int} (h : ∀ p ∈ l, (near (q * p.1) p.2).2 = 0) (hp : ∀ p ∈ l, 0 < p.2) : missL l q = (0, 1) := by
  have e : ∀ (l : List (Int × Int)), (∀ p ∈ l, (near (q * p.1) p.2).2 = 0) → l.foldl (missS q) (0, 1) = (0, 1) := by
    intro l
    induction l with
    | nil => intro _; rfl
    | cons p l ih =>
      intro h
      have h0 := h p (by simp)
      have : missS q (0, 1) p = (0, 1) := by
        unfold missS
        rw [h0]
        have : isMore (0, p.2) (0, 1) = false := by
          unfold isMore
          simp
        rw [this]
        rfl
      rw [List.foldl_cons, this]
      exact ih fun p hp => h p (List.mem_cons_of_mem _ hp)
  unfold missL missF
  rw [e l h]
  decide
theorem near_dvd {b k : Int} (hb : 0 < b) : near (k * b) b = (k, 0) := by
  have := near_add 0 b k hb
  rw [Int.zero_add] at this
  rw [this]
  have h0 : near 0 b = (0, 0) := by
    unfold near
    simp
    omega
  rw [h0, Int.zero_add]
/-- so many on the rows -/
def comL (l : List (Int × Int)) (r : List Int) (c : Int) : List Int := List.zipWith (fun w (p : Int × Int) => w + p.1 * c / p.2) r l
theorem com_row (q c : Int) : ∀ (l : List (Int × Int)), (∀ p ∈ l, 0 < p.2 ∧ p.2 ∣ c) → rowF l (c + q) = comL l (rowF l q) c ∧ l.map (offP (c + q)) = l.map (offP q) ∧ l.map (offP (c - q)) = l.map (offP q)
  | [], _ => ⟨rfl, rfl, rfl⟩
  | p :: l, h => by
    obtain ⟨hp, d, hd⟩ := h p (by simp)
    obtain ⟨i1, i2, i3⟩ := com_row q c l fun x hx => h x (List.mem_cons_of_mem _ hx)
    have hdiv : p.1 * c / p.2 = p.1 * d := by
      rw [hd, show p.1 * (p.2 * d) = (p.1 * d) * p.2 by grind]
      exact Int.mul_ediv_cancel _ (by omega)
    have n : near ((c + q) * p.1) p.2 = ((near (q * p.1) p.2).1 + p.1 * d, (near (q * p.1) p.2).2) := by
      rw [show (c + q) * p.1 = q * p.1 + (p.1 * d) * p.2 by rw [hd]; grind, near_add _ _ _ hp]
    have n2 : (near ((c - q) * p.1) p.2).2 = (near (q * p.1) p.2).2 := by
      rw [show (c - q) * p.1 = -(q * p.1) + (p.1 * d) * p.2 by rw [hd]; grind, near_add _ _ _ hp]
      exact near_neg _ _ hp
    refine ⟨?_, ?_, ?_⟩
    · show (near ((c + q) * p.1) p.2).1 :: rowF l (c + q) = ((near (q * p.1) p.2).1 + p.1 * c / p.2) :: comL l (rowF l q) c
      rw [n, i1, hdiv]
    · show ((near ((c + q) * p.1) p.2).2, p.2) :: l.map (offP (c + q)) = offP q p :: l.map (offP q)
      rw [n, i2]
    · show ((near ((c - q) * p.1) p.2).2, p.2) :: l.map (offP (c - q)) = offP q p :: l.map (offP q)
      rw [n2, i3]
abbrev smallP (p : Int × Int) : Int × Int := (p.1, 1 + p.2 % 10 ^ (9 : Int).toNat)
def L1_law_common_right : TS3 := (xFor (xSeqI (xView 4)) (xGTup 2 (xGCons (xGName 2) (xGCons (xGName 3) xGNil))) (xAsg (xD (x2 kMul (xView 5) (xView 3))) (xGName 5)))
def N_law_common_right : List Str := ["_law_deck_here", "_law_asking_here", "_law_above", "_law_below_here", "_law_small", "_law_common", "_law_q", "_law_row", "_law_miss", "_law_due", "_law_whole", "_law_one"]
def body_law_common_right : TS3 := (xSeq (xAsg (xD (x1 cTup (xFz (xLc (xSeqI (xView 1)) (xGTup 2 (xGCons (xGName 2) (xGCons (xGName 3) xGNil))) xYes (xTup (xCons (xMove 2) (xCons (xD (x2 kAdd (xC (.int 1)) (x2 kMod (xView 3) (x2 kPow (xC (.int 10)) (xC (.int 9)))))) xNil))) [2, 3])))) (xGName 4))
  (xSeq (xAsg (xD (xC (.int 1))) (xGName 5))
  (xSeq L1_law_common_right
  (xSeq (xIfS (xTest (x2 kNe (x2 cIx (xFz (xCall sp_near_row xNoE (xArg (xView 4) (xArg (xView 5) xANil)))) (xC (.int 1))) (xFz (xTup (xCons (xD (xC (.int 0))) (xCons (xD (xC (.int 1))) xNil)))))) (xRet (xD (xC (.bool false)))) xNext)
  (xSeq (xAsg (xD (x2 kAdd (xC (.int 1)) (xFz (xCall sp_law_take xNoE (xIo 0 (xArg (x2 kPow (xC (.int 10)) (xC (.int 6))) xANil)))))) (xGName 6))
  (xSeq (xAsg (xCall sp_near_row xNoE (xArg (xView 4) (xArg (xView 6) xANil))) (xGTup 2 (xGCons (xGName 7) (xGCons (xGName 8) xGNil))))
  (xSeq (xAsg (xD (x1 cTup (xFz (xLc (xZipX (xView 7) (xView 4)) (xGTup 2 (xGCons (xGName 10) (xGCons (xGName 11) xGNil))) xYes (xD (x2 kAdd (xView 10) (x2 kDiv (x2 kMul (x2 cIx (xView 11) (xC (.int 0))) (xView 5)) (x2 cIx (xView 11) (xC (.int 1)))))) [10, 11])))) (xGName 9))
  (xSeq (xIfS (xTest (x2 kNe (xFz (xCall sp_near_row xNoE (xArg (xView 4) (xArg (xFz (x2 cAdd (xView 5) (xView 6))) xANil)))) (xFz (xTup (xCons (xMove 9) (xCons (xMove 8) xNil)))))) (xRet (xD (xC (.bool false)))) xNext)
  (xRet (xD (xOrV (x2 kGe (xView 6) (xView 5)) (x2 kEq (x2 cIx (xFz (xCall sp_near_row xNoE (xArg (xView 4) (xArg (x2 kSub (xView 5) (xView 6)) xANil)))) (xC (.int 1))) (xView 8)))))))))))))

def sp_law_common_right : Sp3 := fun ts Q _ => ∃ n a dl l, ts = [.own a dl, .d (asD l)] ∧ DeckOk (n + 1) dl ∧ AskS l ∧ ∀ dl', DeckOk n dl' → Q (.d (.bool true)) [.own a dl', .d (asD l)]
theorem v_law_common_right (ts Q E) (h : sp_law_common_right ts Q E) : body_law_common_right { nx := fun r => finOk ts r ∧ Q (.d .none) (finF ts r), rt := fun x r => finOk ts r ∧ Q x (finF ts r) } (start3 N_law_common_right ts) := by
  obtain ⟨n, a, dl, l, rfl, hd, hl, k⟩ := h
  have hb : 1000 < sizeLine := by decide
  have p9 : CPow 10 9 := ⟨by decide, by decide, by decide⟩
  have p6 : CPow 10 6 := ⟨by decide, by decide, by decide⟩
  have e9 : (10 : Int) ^ (9 : Int).toNat = 1000000000 := by decide +kernel
  have hlen := hl.2.1
  refine fun p1 => ⟨fun i acc r => r = [some (.own a dl), some (.d (asD l)), none, none, none, none, none, none, none, none, none, none] ∧ acc = (l.take i).map (fun p => T.d (prI (smallP p))), ⟨rfl, rfl⟩, fun i x acc r hx hW => ?_, fun acc r hW => ?_⟩
  · obtain ⟨rfl, rfl⟩ := hW
    obtain ⟨p, hp, rfl⟩ := get_fun hx
    exact ⟨rfl, fun _ => ⟨p9, by show (0 : Int) < 10 ^ (9 : Int).toNat; rw [e9]; decide, sz 2, by rw [List.length_map, List.length_take]; omega, rfl, by rw [take_succ hp, List.map_append]; rfl⟩, nofun⟩
  obtain ⟨rfl, hacc⟩ := hW
  rw [List.length_map, List.take_length] at hacc
  subst hacc
  refine ⟨nvs_map (fun p : Int × Int => prI (smallP p)) _, ?_⟩
  rw [fz_own p1 (fun p : Int × Int => prI (smallP p)) l]
  rw [show l.map (fun p : Int × Int => prI (smallP p)) = (l.map smallP).map prI by rw [List.map_map]; rfl]
  have hs : ∀ p ∈ l.map smallP, 0 < p.2 ∧ p.2 ≤ 1000000000 ∧ 0 ≤ p.1 ∧ p.1 ≤ 10000000000000000 := fun z hz => by
    obtain ⟨p, hp, rfl⟩ := List.mem_map.mp hz
    obtain ⟨h1, h2, h3, h4⟩ := hl.2.2 p hp
    have m0 := Int.emod_nonneg p.2 (show ((10 : Int) ^ (9 : Int).toNat) ≠ 0 by rw [e9]; decide)
    have m1 := Int.emod_lt_of_pos p.2 (show (0 : Int) < 10 ^ (9 : Int).toNat by rw [e9]; decide)
    rw [e9] at m0 m1
    show 0 < 1 + p.2 % 10 ^ (9 : Int).toNat ∧ 1 + p.2 % 10 ^ (9 : Int).toNat ≤ 1000000000 ∧ _
    rw [e9]
    exact ⟨by omega, by omega, h3, h4⟩
  have hsl : (l.map smallP).length = l.length := List.length_map ..
  have hsn : l.map smallP ≠ [] := by simpa using hl.1
  generalize l.map smallP = m at *
  have okm : OkA m := fun p hp => by
    obtain ⟨h1, h2, h3, h4⟩ := hs p hp
    exact ⟨h1, szB (by omega) (by omega), szB (by omega) (by omega)⟩
  have hm2 : m.length ≤ 1000 := by omega
  refine ⟨fun i r => ∃ c : Int, ∃ s2 s3, r = [some (.own a dl), some (.d (asD l)), s2, s3, some (.d (asD m)), some (.d (.int c)), none, none, none, none, none, none] ∧ 1 ≤ c ∧ c ≤ 1000000000 ^ i ∧ ∀ p ∈ m.take i, p.2 ∣ c, ⟨1, _, _, rfl, by omega, by decide, by simp⟩, fun i x r hx hW => ?_, fun r hW => ?_⟩
  · obtain ⟨c, s2, s3, rfl, c1, c2, c3⟩ := hW
    obtain ⟨p, hp, rfl⟩ := get_fun hx
    obtain ⟨h1, h2, _⟩ := hs p (List.mem_of_getElem? hp)
    refine ⟨rfl, mulOkR (by omega) (by omega), c * p.2, _, _, rfl, ?_, ?_, fun z hz => ?_⟩
    · have := Int.mul_pos (show 0 < c by omega) h1
      omega
    · rw [Int.pow_succ]
      exact Int.mul_le_mul c2 h2 (by omega) (Int.pow_nonneg (by decide))
    · rw [take_succ hp] at hz
      rcases List.mem_append.mp hz with hz | hz
      · exact Int.dvd_trans (c3 z hz) (Int.dvd_mul_right ..)
      · rw [List.mem_singleton.mp hz]; exact Int.dvd_mul_left ..
  obtain ⟨c, s2, s3, rfl, c1, c2, c3⟩ := hW
  rw [List.length_map] at c2 c3
  rw [List.take_length] at c3
  have c4 : c ≤ 1000000000000000000000000000 := by
    rcases (show m.length = 0 ∨ m.length = 1 ∨ m.length = 2 ∨ m.length = 3 by omega) with e | e | e | e <;> rw [e] at c2 <;> exact Int.le_trans c2 (by decide)
  have sc : Sz 2000 c := szB (by omega) (by omega)
  have hpd : ∀ p ∈ m, 0 < p.2 ∧ p.2 ∣ c := fun p hp => ⟨(hs p hp).1, c3 p hp⟩
  have mc : missL m c = (0, 1) := off_zero (fun p hp => by
    obtain ⟨h1, d, hd⟩ := hpd p hp
    rw [show c * p.1 = (d * p.1) * p.2 by rw [hd]; grind, near_dvd h1]) fun p hp => (hpd p hp).1
  refine ⟨nd0, m, c, rfl, hsn, hm2, okm, c1, sc, _, rfl, sz 2, ifNe (y := prI (0, 1)) (by rw [mc]) (nest_pr (n := 6) _) ?_⟩
  refine ⟨p6, nd1, n, a, dl, _, rfl, hd, by decide, by decide, fun x1 dl' h0 h1 hd1 => ?_⟩
  have e6 : (10 : Int) ^ (6 : Int).toNat = 1000000 := by decide +kernel
  rw [e6] at h1
  obtain ⟨q1, q2, q3⟩ := com_row (1 + x1) c m hpd
  refine ⟨nd0, m, 1 + x1, rfl, hsn, hm2, okm, by omega, szB (by omega) (by omega), rfl, _, _, rfl, rfl, fun p2 => ⟨fun i acc r => r = [some (.own a dl'), some (.d (asD l)), s2, s3, some (.d (asD m)), some (.d (.int c)), some (.d (.int (1 + x1))), some (.d (.tuple ((rowF m (1 + x1)).map PyData.int))), some (.d (prI (missL m (1 + x1)))), none, none, none] ∧ acc = ((comL m (rowF m (1 + x1)) c).take i).map (fun p => T.d (.int p)), ⟨rfl, rfl⟩, fun i x acc r hx hW => ?_, fun acc r hW => ?_⟩⟩
  · obtain ⟨rfl, rfl⟩ := hW
    obtain ⟨w, p, hw, hp, rfl⟩ := zip_at hx
    obtain ⟨b1, b2, b3, b4⟩ := hs p (List.mem_of_getElem? hp)
    exact ⟨rfl, fun _ => ⟨_, rfl, mulOkL (by omega) (by omega), _, rfl, divOk b1 (szB (by omega) (by omega)) (by decide), by
      rw [List.length_map, List.length_take]
      have : (comL m (rowF m (1 + x1)) c).length ≤ m.length := by unfold comL; rw [List.length_zipWith]; omega
      omega, rfl, by rw [take_succ (show (comL m (rowF m (1 + x1)) c)[i]? = some _ from zw_at hw hp), List.map_append]; rfl⟩, nofun⟩
  obtain ⟨rfl, hacc⟩ := hW
  rw [comL, zw_done, ← comL] at hacc
  subst hacc
  refine ⟨nvs_map _ _, ?_⟩
  rw [fz_own p2 PyData.int (comL m (rowF m (1 + x1)) c)]
  have lcom : (comL m (rowF m (1 + x1)) c).length ≤ 1000 := by rw [← q1, row_len]; omega
  refine ⟨nd0, m, c + (1 + x1), rfl, hsn, hm2, okm, by omega, szB (by omega) (by omega), sz 2, ifNe (nrD_eq q1 (missL_congr q2)) (nest_row lcom) ?_⟩
  refine ⟨fun _ => ⟨⟨rfl, ⟨⟩⟩, k dl' hd1⟩, fun hc => ?_⟩
  have hlt : 1 + x1 < c := by
    have := dF hc
    omega
  have em : missL m (c - (1 + x1)) = missL m (1 + x1) := missL_congr q3
  refine ⟨nd0, m, c - (1 + x1), rfl, hsn, hm2, okm, by omega, szB (by omega) (by omega), _, rfl, ?_⟩
  rw [em]
  have sh := nest_shaped (nest_pr (n := 6) (missL m (1 + x1))) (by decide)
  refine ⟨sh, sh, ⟨rfl, ⟨⟩⟩, ?_⟩
  show Q (.d (.bool (PyData.eqv (prI (missL m (1 + x1))) (prI (missL m (1 + x1)))))) _
  rw [eqv_self (nest_pr (n := 6) _)]
  exact k dl' hd1
def L1_law_5 : TS3 := (xFor (xSeqI (xFz (xLst (xCons (xD (xC (.int 1))) (xCons (xD (x2 kAdd (xC (.int 1)) (xFz (xCall sp_law_take xNoE (xIo 1 (xArg (xC (.int 3000)) xANil)))))) (xCons (xD (x2 kAdd (xC (.int 1)) (xFz (xCall sp_law_far xNoE (xIo 1 xANil))))) xNil)))))) (xGName 4) (xIfS (xNot (xTest (xFz (xCall sp_law_right_2 xNoE (xIo 1 (xArg (xView 3) (xArg (xView 4) xANil))))))) (xRet (xD (xC (.bool false)))) xNext))
def L2_law_5 : TS3 := (xFor (xR1 (xC (.int 8))) (xGName 2) (xSeq (xAsg (xD (x1 cTup (xFz (xLc (xSeqI (xFz (xCall sp_law_asking_1 xNoE (xIo 1 xANil)))) (xGTup 2 (xGCons (xGName 5) (xGCons (xGName 6) xGNil))) xYes (xTup (xCons (xD (x2 kMod (xView 5) (x2 kPow (xC (.int 10)) (xC (.int 16))))) (xCons (xD (x2 kAdd (x2 kMod (xView 6) (x2 kPow (xC (.int 10)) (xC (.int 16)))) (xC (.int 1)))) xNil))) [5, 6])))) (xGName 3))
  (xSeq L1_law_5
  (xIfS (xNot (xTest (xFz (xCall sp_law_common_right xNoE (xIo 1 (xArg (xView 3) xANil)))))) (xRet (xD (xC (.bool false)))) xNext))))
def N_law_5 : List Str := ["_law_script", "_law_deck_here", "_law_turn", "_law_asking_here", "_law_q", "_law_above", "_law_below_here"]
def body_law_5 : TS3 := (xSeq (xAsg (xCall sp_law_deck xNoE (xArg (xView 0) xANil)) (xGName 1))
  (xSeq L2_law_5
  (xRet (xD (xC (.bool true))))))

theorem v_law_5 (ts Q E) (h : spLaw ts Q E) : body_law_5 { nx := fun r => finOk ts r ∧ Q (.d .none) (finF ts r), rt := fun x r => finOk ts r ∧ Q x (finF ts r) } (start3 N_law_5 ts) := by
  obtain ⟨a, ns, rfl, hl, q⟩ := h
  have hb : 1000 < sizeLine := by decide
  have p16 : CPow 10 16 := ⟨by decide, by decide, by decide⟩
  have e16 : (10 : Int) ^ (16 : Int).toNat = 10000000000000000 := by decide +kernel
  have hp16 : (0 : Int) < 10 ^ (16 : Int).toNat := by rw [e16]; decide
  refine ⟨nd0, a, ns, rfl, hl, fun dk l0 hd0 => ?_⟩
  refine ⟨by decide, by decide, fun i r => ∃ l b c d, r = [some (.sc a ns), some (.own dk l), b, c, d, none, none] ∧ i ≤ 8 ∧ DeckOk (10000 + (8 - i) * 1000) l, ⟨l0, _, _, _, rfl, by decide, hd0.mono (by decide)⟩, fun i x r hx hW => ?_, fun r hW => ?_⟩
  · obtain ⟨l, b, c, d, rfl, hi, hd⟩ := hW
    obtain ⟨hi8, rfl⟩ := rangeI_get hx
    refine ⟨nd1, 10000 + (7 - i) * 1000 + 900, dk, l, rfl, hd.mono (by omega), fun p l1 hp hd1 => ?_⟩
    let sm : Int × Int → Int × Int := fun p => (p.1 % 10 ^ (16 : Int).toNat, p.2 % 10 ^ (16 : Int).toNat + 1)
    have hs : AskS (p.map sm) := ⟨by simpa using hp.1, by rw [List.length_map]; exact hp.2.1, fun z hz => by
      obtain ⟨y, hy, rfl⟩ := List.mem_map.mp hz
      have a0 := Int.emod_nonneg y.1 (show ((10 : Int) ^ (16 : Int).toNat) ≠ 0 by rw [e16]; decide)
      have a1 := Int.emod_lt_of_pos y.1 hp16
      have b0 := Int.emod_nonneg y.2 (show ((10 : Int) ^ (16 : Int).toNat) ≠ 0 by rw [e16]; decide)
      have b1 := Int.emod_lt_of_pos y.2 hp16
      show 0 < y.2 % 10 ^ (16 : Int).toNat + 1 ∧ y.2 % 10 ^ (16 : Int).toNat + 1 ≤ _ ∧ 0 ≤ y.1 % 10 ^ (16 : Int).toNat ∧ y.1 % 10 ^ (16 : Int).toNat ≤ _
      rw [e16] at a0 a1 b0 b1 ⊢
      omega⟩
    have hplen := hp.2.1
    refine fun p1 => ⟨fun j acc r => r = [some (.sc a ns), some (.own dk l1), some (.d (.int (0 + (i : Nat)))), c, d, none, none] ∧ acc = (p.take j).map (fun z => T.d (prI (sm z))), ⟨rfl, rfl⟩, fun j x acc r hx hW => ?_, fun acc r hW => ?_⟩
    · obtain ⟨rfl, rfl⟩ := hW
      obtain ⟨z, hz, rfl⟩ := get_fun hx
      exact ⟨rfl, fun _ => ⟨p16, hp16, p16, hp16, sz 2, by rw [List.length_map, List.length_take]; omega, rfl, by rw [take_succ hz, List.map_append]; rfl⟩, nofun⟩
    obtain ⟨rfl, hacc⟩ := hW
    rw [List.length_map, List.take_length] at hacc
    subst hacc
    refine ⟨nvs_map (fun z : Int × Int => prI (sm z)) _, ?_⟩
    rw [fz_own p1 (fun z : Int × Int => prI (sm z)) p]
    rw [show p.map (fun z : Int × Int => prI (sm z)) = (p.map sm).map prI by rw [List.map_map]; rfl]
    generalize p.map sm = m at *
    refine ⟨nd1, 10000 + (7 - i) * 1000 + 800, dk, l1, _, rfl, hd1.mono (by omega), by decide, by decide, fun x1 l2 h10 h11 hd2 => ?_⟩
    refine ⟨nd1, 10000 + (7 - i) * 1000 + 700, dk, l2, rfl, hd2.mono (by omega), fun x2 l3 h20 h21 hd3 => ?_⟩
    refine ⟨sz 3, fun pl => ⟨rfl, fun j r => ∃ l s2 s4, r = [some (.sc a ns), some (.own dk l), s2, some (.d (asD m)), s4, none, none] ∧ DeckOk (10000 + (7 - i) * 1000 + (700 - j * 100)) l ∧ j ≤ 3, ⟨l3, _, _, rfl, hd3.mono (by omega), by omega⟩, fun j x r hx hW => ?_, fun r hW => ?_⟩⟩
    · obtain ⟨l', s2, s4, rfl, hd', hj⟩ := hW
      obtain ⟨y, hy, rfl⟩ : ∃ y : Int, (1 ≤ y ∧ y ≤ 20000000000000000000) ∧ x = .int y := by
        have hx' : ([1, 1 + x1, 1 + x2].map PyData.int)[j]? = some x := hx
        obtain ⟨y, hy, rfl⟩ := get_fun hx'
        refine ⟨y, ?_, rfl⟩
        have := List.mem_of_getElem? hy
        simp only [List.mem_cons, List.not_mem_nil, or_false] at this
        rcases this with rfl | rfl | rfl <;> omega
      have hj3 : j < 3 := (List.getElem?_eq_some_iff.mp hx).1
      exact ⟨nd1, 10000 + (7 - i) * 1000 + (700 - (j + 1) * 100), dk, l', m, y, rfl, hd'.mono (by omega), hs, hy.1, hy.2, fun dl' hd2 => ⟨nofun, fun _ => ⟨dl', _, _, rfl, hd2, by omega⟩⟩⟩
    · obtain ⟨l', s2, s4, rfl, hd', hj⟩ := hW
      exact ⟨nd1, 10000 + (7 - i) * 1000, dk, l', m, rfl, hd'.mono (by omega), hs, fun dl' hd2 => ⟨nofun, fun _ => ⟨dl', _, _, _, rfl, by omega, hd2.mono (by omega)⟩⟩⟩
  · obtain ⟨l, b, c, d, rfl, hi, hd⟩ := hW
    exact ⟨⟨⟩, q _⟩
end L3
namespace L3
open PySem PySem.Spec PyProof.Rows L2 TL
local macro_rules | `(tactic| wtm_at "sh") => `(tactic| conv => whnf)
/-! ## the best ones seen otherwise -/
/-- a comprehension whose items tell data, one for each -/
theorem lc_gen {items : List PyData} (out : List PyData) (hlen : out.length = items.length) (hsz : items.length ≤ sizeLine) {r1 : Rho} {js : List Nat} {g : TG3} {te : TE3} {Fin : Addr → List T → Rho → Prop}
    (turn : ∀ r0, wp r1 js = r0 → ∀ (i : Nat) (x y : PyData), items[i]? = some x → out[i]? = some y → ∀ (R : T → Rho → Prop) (S : Rho → Prop), (∀ r4, wp r4 js = r0 → R (.d y) r4) → g (.d x) r0 fun r2 => xYes r2 fun b r3 => (b = true → te r3 R) ∧ (b = false → S r3))
    (fin : ∀ r0, wp r1 js = r0 → ∀ p, Fin p (out.map T.d) r0) :
    ∀ p, ∃ W : Nat → List T → Rho → Prop, W 0 [] (wp r1 js) ∧
      (∀ (i : Nat) (x : PyData) (acc : List T) (r : Rho), items[i]? = some x → W i acc r → g (.d x) r fun r2 => xYes r2 fun b r3 => (b = true → te r3 fun y r4 => acc.length < sizeLine ∧ W (i + 1) (acc ++ [y]) (wp r4 js)) ∧ (b = false → W (i + 1) acc (wp r3 js))) ∧
      ∀ acc r, W items.length acc r → Fin p acc r := fun p => by
  refine ⟨fun i acc r => r = wp r1 js ∧ acc = (out.take i).map T.d, ⟨rfl, rfl⟩, fun i x acc r hx hW => ?_, fun acc r hW => ?_⟩
  · obtain ⟨rfl, rfl⟩ := hW
    have hi : i < items.length := (List.getElem?_eq_some_iff.mp hx).1
    have ho : out[i]? = some out[i] := List.getElem?_eq_getElem (by omega)
    exact turn _ rfl i x _ hx ho _ _ fun r4 e => ⟨by rw [List.length_map, List.length_take]; omega, e, by rw [take_succ ho, List.map_append]; rfl⟩
  · obtain ⟨rfl, rfl⟩ := hW
    rw [← hlen, List.take_length]
    exact fin _ rfl p
theorem fz_outs (p : Addr) (out : List PyData) : fz (T.own p (out.map T.d)) = .list out := by
  show PyData.list (fzs _) = _
  rw [fzs_d]
theorem get_map2 {α β : Type} {f : α → β} {l : List α} {i : Nat} {u : α} {y : β} (h : (l.map f)[i]? = some y) (e : l[i]? = some u) : y = f u := by
  rw [List.getElem?_map, e] at h
  exact (Option.some.inj h).symm
theorem ifEq {x y : PyData} (e : x = y) (hn : Nest 8 y) {A B : Prop} (hA : A) : SeqAt.shaped x = true ∧ SeqAt.shaped y = true ∧ ((PyData.eqv x y = true → A) ∧ (PyData.eqv x y = false → B)) := by
  subst e
  have sh := nest_shaped hn (by decide)
  refine ⟨sh, sh, fun _ => hA, fun h => ?_⟩
  rw [eqv_self hn] at h; cases h
theorem retEq {x y : PyData} (e : x = y) (hn : Nest 8 y) {P : Bool → Prop} (h : P true) : SeqAt.shaped x = true ∧ SeqAt.shaped y = true ∧ P (PyData.eqv x y) := by
  subst e
  have sh := nest_shaped hn (by decide)
  refine ⟨sh, sh, ?_⟩
  rw [eqv_self hn]; exact h
/-- triples with rows of another kind -/
def trG (l : List (Int × Int)) (g : Int → List Int) (q : Int) : PyData := .tuple [.int q, .tuple ((g q).map PyData.int), prI (missL l q)]
theorem bD_as {l l' : List (Int × Int)} (h : ∀ q, missL l' q = missL l q) {g : Int → List Int} (hr : ∀ q, rowF l' q = g q) (n : Nat) : bD l' (bestL l' n) = .list ((bestL l n).map (trG l g)) := by
  rw [bestL_congr h]
  unfold bD trD trG
  simp only [h, hr]
theorem nest_trG {l : List (Int × Int)} {g : Int → List Int} {ns : List Int} (hg : ∀ q, (g q).length ≤ 1000) (k : ns.length < sizeLine) : Nest 8 (.list (ns.map (trG l g))) := by
  have a : 1000 < sizeLine := by decide
  refine ⟨by rw [List.length_map]; exact k, fun x hx => ?_⟩
  obtain ⟨q, _, rfl⟩ := List.mem_map.mp hx
  refine ⟨show 3 < sizeLine by decide, fun x hx => ?_⟩
  simp only [List.mem_cons, List.not_mem_nil, or_false] at hx
  rcases hx with rfl | rfl | rfl
  · exact ⟨⟩
  · refine ⟨?_, fun y hy => ?_⟩
    · rw [List.length_map]; exact Nat.lt_of_le_of_lt (hg q) a
    · obtain ⟨z, _, rfl⟩ := List.mem_map.mp hy
      exact ⟨⟩
  · exact nest_pr (n := 4) _
def AskV (l : List (Int × Int)) : Prop := l ≠ [] ∧ l.length ≤ 3 ∧ ∀ p ∈ l, 0 < p.2 ∧ p.2 ≤ 100000000000000000 ∧ 0 ≤ p.1 ∧ p.1 ≤ 100000000000000000
theorem AskV.ok {l : List (Int × Int)} (h : AskV l) : OkA l := fun p hp => by
  obtain ⟨h1, h2, h3, h4⟩ := h.2.2 p hp
  exact ⟨h1, szB (by omega) (by omega), szB (by omega) (by omega)⟩
abbrev wideP (p : Int × Int) : Int × Int := (p.1 * 6, p.2 * 6)
theorem wide_row (q : Int) (l : List (Int × Int)) (h : ∀ p ∈ l, 0 < p.2) : rowF (l.map wideP) q = rowF l q ∧ missL (l.map wideP) q = missL l q := by
  have one : ∀ p ∈ l, (near (q * (wideP p).1) (wideP p).2).1 = (near (q * p.1) p.2).1 ∧ (near (q * (wideP p).1) (wideP p).2).2 = 6 * (near (q * p.1) p.2).2 := fun p hp => by
    show (near (q * (p.1 * 6)) (p.2 * 6)).1 = _ ∧ (near (q * (p.1 * 6)) (p.2 * 6)).2 = _
    rw [show q * (p.1 * 6) = 6 * (q * p.1) by grind, show p.2 * 6 = 6 * p.2 by grind, near_mul _ _ _ (by decide) (h p hp)]
    exact ⟨rfl, rfl⟩
  refine ⟨?_, miss_eq (fun p hp => ?_) h (fun p hp => ?_) (fun p hp => ?_)⟩
  · unfold rowF
    rw [List.map_map]
    exact List.map_congr_left fun p hp => (one p hp).1
  · obtain ⟨z, hz, rfl⟩ := List.mem_map.mp hp
    have := h z hz
    show 0 < z.2 * 6
    omega
  · obtain ⟨z, hz, rfl⟩ := List.mem_map.mp hp
    exact ⟨z, hz, Int.le_of_eq (show (near (q * (wideP z).1) (wideP z).2).2 * z.2 = (near (q * z.1) z.2).2 * (z.2 * 6) by rw [(one z hz).2]; grind)⟩
  · exact ⟨wideP p, List.mem_map.mpr ⟨p, hp, rfl⟩, Int.le_of_eq (show (near (q * p.1) p.2).2 * (p.2 * 6) = (near (q * (wideP p).1) (wideP p).2).2 * p.2 by rw [(one p hp).2]; grind)⟩
def L1_law_right_3 : TS3 := (xFor (xSeqI (xView 3)) (xGTup 3 (xGCons (xGName 7) (xGCons (xGName 8) (xGCons (xGName 9) xGNil)))) (xDrop (xApp 6 (xTup (xCons (xMove 7) (xCons (xD (x1 cTup (xFz (xLc (xZipX (xView 8) (xView 4)) (xGTup 2 (xGCons (xGName 17) (xGCons (xGName 14) xGNil))) xYes (xD (x2 kAdd (xView 17) (x2 kMul (xView 7) (xView 14)))) [17, 14])))) (xCons (xMove 9) xNil)))))))
def R2_law_right_3 : TS3 := (xSeq (xAsg (xD (x1 cTup (xFz (xLc (xSeqI (xView 1)) (xGTup 2 (xGCons (xGName 15) (xGCons (xGName 16) xGNil))) xYes (xTup (xCons (xD (x2 kMul (xView 15) (xC (.int 6)))) (xCons (xD (x2 kMul (xView 16) (xC (.int 6)))) xNil))) [15, 16])))) (xGName 12))
  (xRet (xD (xAndV (x2 kEq (xFz (xCall sp_best_to xNoE (xArg (xView 12) (xArg (xView 2) xANil)))) (xView 3)) (x2 kEq (xFz (xCall sp_best_to xNoE (xArg (xFz (xCall sp_read_asking xNoE (xArg (xFz (xCall sp_asking_shown xNoE (xArg (xView 12) xANil))) xANil))) (xArg (xView 2) xANil)))) (xView 3))))))
def N_law_right_3 : List Str := ["_law_deck_here", "_law_asking_here", "_law_bound", "_law_found", "_law_put", "_law_moved", "_law_due", "_law_q", "_law_row", "_law_miss", "_law_turned", "_law_twice", "_law_wider", "_law_one", "_law_more", "_law_above", "_law_below_here", "_law_whole"]
def body_law_right_3 : TS3 := (xSeq (xAsg (xCall sp_best_to xNoE (xArg (xView 1) (xArg (xView 2) xANil))) (xGName 3))
  (xFzS 3 (xSeq (xAsg (xLc (xSeqI (xView 1)) (xGName 13) xYes (xD (x2 kSub (xFz (xCall sp_law_take xNoE (xIo 0 (xArg (xC (.int 101)) xANil)))) (xC (.int 50)))) [13]) (xGName 4))
  (xFzS 4 (xSeq (xAsg (xD (x1 cTup (xFz (xLc (xZipX (xView 1) (xView 4)) (xGTup 2 (xGCons (xGName 13) (xGCons (xGName 14) xGNil))) xYes (xTup (xCons (xD (x2 kAdd (x2 cIx (xView 13) (xC (.int 0))) (x2 kMul (xView 14) (x2 cIx (xView 13) (xC (.int 1)))))) (xCons (xD (x2 cIx (xView 13) (xC (.int 1)))) xNil))) [13, 14])))) (xGName 5))
  (xSeq (xAsg (xLst xNil) (xGName 6))
  (xSeq L1_law_right_3
  (xSeq (xIfS (xTest (x2 kNe (xFz (xCall sp_best_to xNoE (xArg (xView 5) (xArg (xView 2) xANil)))) (xView 6))) (xRet (xD (xC (.bool false)))) xNext)
  (xSeq (xIfS (xTest (x2 kNe (xFz (xCall sp_best_to xNoE (xArg (xFz (xRevT (xView 1))) (xArg (xView 2) xANil)))) (xFz (xLc (xSeqI (xView 3)) (xGTup 3 (xGCons (xGName 7) (xGCons (xGName 8) (xGCons (xGName 9) xGNil)))) xYes (xTup (xCons (xMove 7) (xCons (xRevT (xView 8)) (xCons (xMove 9) xNil)))) [7, 8, 9])))) (xRet (xD (xC (.bool false)))) xNext)
  (xSeq (xAsg (xCall sp_best_to xNoE (xArg (x1 cTup (xFz (xLc (xSeqI (xView 1)) (xGTup 2 (xGCons (xGName 15) (xGCons (xGName 16) xGNil))) xYes (xTup (xCons (xD (x2 kSub (xC (.int 0)) (xView 15))) (xCons (xMove 16) xNil))) [15, 16]))) (xArg (xView 2) xANil))) (xGName 10))
  (xFzS 10 (xSeq (xIfS (xTest (x2 kNe (xFz (xLc (xSeqI (xView 10)) (xGName 13) xYes (xTwoT (xView 13)) [13])) (xFz (xLc (xSeqI (xView 3)) (xGName 13) xYes (xTwoT (xView 13)) [13])))) (xRet (xD (xC (.bool false)))) xNext)
  (xSeq (xIfS (xTest (x2 kLt (x1 cLen (xView 1)) (xC (.int 3)))) (xSeq (xAsg (xCall sp_best_to xNoE (xArg (xFz (x2 cAdd (xView 1) (xFz (xSl (xView 1) xNo (xSome (xC (.int 1))))))) (xArg (xView 2) xANil))) (xGName 11))
  (xFzS 11 (xIfS (xTest (x2 kNe (xView 11) (xFz (xLc (xSeqI (xView 3)) (xGTup 3 (xGCons (xGName 7) (xGCons (xGName 8) (xGCons (xGName 9) xGNil)))) xYes (xTup (xCons (xMove 7) (xCons (x2 cAdd (xView 8) (xFz (xSl (xView 8) xNo (xSome (xC (.int 1)))))) (xCons (xMove 9) xNil)))) [7, 8, 9])))) (xRet (xD (xC (.bool false)))) xNext))) xNext)
  R2_law_right_3)))))))))))))

theorem v_R2_law_right_3 {ts : List T} {Q : T → List T → Prop} {D : Ends3} {a : Addr} {dl : List T} {l : List (Int × Int)} {n : Nat} {x4 x5 x6 x7 x8 x9 x10 x11 : Option T} (hl : AskV l) (h1 : 1 ≤ n) (h2 : n ≤ 1001)
    (k : ∀ r, r[0]? = some (some (.own a dl)) → r[1]? = some (some (.d (asD l))) → r[2]? = some (some (.d (.int (n : Nat)))) → D.rt (.d (.bool true)) r) :
    R2_law_right_3 D [some (.own a dl), some (.d (asD l)), some (.d (.int (n : Nat))), some (.d (bD l (bestL l n))), x4, x5, x6, x7, x8, x9, x10, x11, none, none, none, none, none, none] := by
  have ok := hl.ok
  have hlen := hl.2.1
  have hlen2 : l.length ≤ 1000 := by omega
  have hb : 1001 < sizeLine := by decide
  have hb2 : 3 < sizeLine := by decide
  have hpos : ∀ p ∈ l, 0 < p.2 := fun p hp => (ok p hp).1
  have bl := bestL_len l n
  have nb : Nest 8 (bD l (bestL l n)) := nest_bD (n := 4) hlen2 (by omega)
  have okT : ∀ p ∈ l.map wideP, OkT p := fun z hz => by
    obtain ⟨p, hp, rfl⟩ := List.mem_map.mp hz
    obtain ⟨h1, h2, h3, h4⟩ := hl.2.2 p hp
    exact ⟨show 0 < p.2 * 6 by omega, Nat.lt_of_lt_of_le (show (p.1 * 6).natAbs < 10 ^ 30 by omega) (Nat.pow_le_pow_right (by decide) (by decide)), Nat.lt_of_lt_of_le (show (p.2 * 6).natAbs < 10 ^ 30 by omega) (Nat.pow_le_pow_right (by decide) (by decide))⟩
  have okw : OkA (l.map wideP) := fun z hz => by
    obtain ⟨p, hp, rfl⟩ := List.mem_map.mp hz
    obtain ⟨h1, h2, h3, h4⟩ := hl.2.2 p hp
    exact ⟨show 0 < p.2 * 6 by omega, szB (show _ ≤ p.1 * 6 by omega) (show p.1 * 6 ≤ _ by omega), szB (show _ ≤ p.2 * 6 by omega) (show p.2 * 6 ≤ _ by omega)⟩
  have wpos : ∀ p ∈ l.map wideP, 0 < p.2 := fun p hp => (okw p hp).1
  have okT2 : ∀ z ∈ (l.map wideP).map leastP, OkT z := fun z hz => by
    obtain ⟨p, hp, rfl⟩ := List.mem_map.mp hz
    exact okT_least (okT p hp)
  have ll : ((l.map wideP).map leastP).map leastP = (l.map wideP).map leastP := by
    rw [List.map_map (f := leastP)]
    exact List.map_congr_left fun p hp => inL_idem (wpos p hp)
  have okl : OkA ((l.map wideP).map leastP) := fun z hz => by
    obtain ⟨p, hp, rfl⟩ := List.mem_map.mp hz
    obtain ⟨h1, h2, h3⟩ := okw p hp
    have ia := inL_abs (a := p.1) h1
    exact ⟨(inL_pos (A := p.1) h1).1, Nat.lt_of_le_of_lt ia.1 h2, Nat.lt_of_le_of_lt ia.2 h3⟩
  have hw : ∀ q, rowF (l.map wideP) q = rowF l q ∧ missL (l.map wideP) q = missL l q := fun q => wide_row q l hpos
  have hw2 : ∀ q, rowF ((l.map wideP).map leastP) q = rowF l q ∧ missL ((l.map wideP).map leastP) q = missL l q := fun q => by
    have := least_row q _ wpos
    rw [(hw q).1, (hw q).2] at this
    exact this
  have e1 : bD (l.map wideP) (bestL (l.map wideP) n) = bD l (bestL l n) := by
    rw [bestL_congr (fun q => (hw q).2)]
    exact bD_congr _ fun q => trD_congr (hw q).2 (hw q).1
  have e2 : bD ((l.map wideP).map leastP) (bestL ((l.map wideP).map leastP) n) = bD l (bestL l n) := by
    rw [bestL_congr (fun q => (hw2 q).2)]
    exact bD_congr _ fun q => trD_congr (hw2 q).2 (hw2 q).1
  have lw : (l.map wideP).length = l.length := List.length_map ..
  have lw2 : ((l.map wideP).map leastP).length = l.length := by rw [List.length_map, lw]
  have hwn : l.map wideP ≠ [] := by simpa using hl.1
  refine lc_gen ((l.map wideP).map prI) (by simp) (by rw [List.length_map]; omega) (fun r0 h0 i x y hx hy R S kk => ?_) fun r0 h0 p => ⟨nvs_d _, ?_⟩
  · simp only [wp, puts, List.set_cons_succ, List.set_cons_zero] at h0; subst h0
    obtain ⟨z, hz, rfl⟩ := get_fun hx
    rw [List.map_map] at hy
    obtain rfl := get_map2 hy hz
    exact ⟨rfl, fun _ => ⟨mulOkR (by decide) (by decide), mulOkR (by decide) (by decide), sz 2, kk _ rfl⟩, nofun⟩
  simp only [wp, puts, List.set_cons_succ, List.set_cons_zero] at h0; subst h0
  rw [fz_outs]
  refine ⟨nd0, l.map wideP, n, rfl, hwn, by omega, okw, h1, by omega, fun p1 => ⟨nvs_map _ _, ?_⟩⟩
  rw [fz_bT]
  refine ifEq e1 nb ?_
  refine ⟨nd0, l.map wideP, rfl, hwn, by omega, okT, nd0, (l.map wideP).map leastP, rfl, by simpa using hl.1, by omega, okT2, nd0, (l.map wideP).map leastP, n, by rw [show (fun p : Int × Int => inL p.1 p.2) = leastP from rfl, ll], by simpa using hl.1, by omega, okl, h1, by omega, fun p2 => ⟨nvs_map _ _, ?_⟩⟩
  rw [fz_bT]
  exact retEq (P := fun b => D.rt (.d (.bool b)) _) e2 nb (k _ rfl rfl rfl)
theorem zipD_len {l m : List PyData} : (zipD l m).length = min l.length m.length := List.length_zipWith
theorem zw_map {α β γ δ : Type} (f : γ → δ) (h : α → β → γ) : ∀ (l : List α) (m : List β), (List.zipWith h l m).map f = List.zipWith (fun x y => f (h x y)) l m
  | [], _ => rfl
  | _ :: _, [] => rfl
  | x :: l, y :: m => by rw [List.zipWith_cons_cons, List.map_cons, List.zipWith_cons_cons, zw_map f h l m]
theorem zw_at2 {α β : Type} {h : α → β → PyData} {l : List α} {m : List β} {i : Nat} {p : α} {t : β} {y : PyData} (e : (List.zipWith h l m)[i]? = some y) (e1 : l[i]? = some p) (e2 : m[i]? = some t) : y = h p t := by
  rw [zw_at e1 e2] at e
  exact (Option.some.inj e).symm
def sp_law_right_3 : Sp3 := fun ts Q _ => ∃ k a dl l, ∃ n : Nat, ts = [.own a dl, .d (asD l), .d (.int (n : Nat))] ∧ DeckOk (k + 3) dl ∧ AskV l ∧ 1 ≤ n ∧ n ≤ 1001 ∧ ∀ dl', DeckOk k dl' → Q (.d (.bool true)) [.own a dl', .d (asD l), .d (.int (n : Nat))]
set_option maxHeartbeats 2000000 in
theorem v_law_right_3 (ts Q E) (h : sp_law_right_3 ts Q E) : body_law_right_3 { nx := fun r => finOk ts r ∧ Q (.d .none) (finF ts r), rt := fun x r => finOk ts r ∧ Q x (finF ts r) } (start3 N_law_right_3 ts) := by
  obtain ⟨kk, a, dl, l, n, rfl, hd, hl, hn, hn2, k⟩ := h
  have ok := hl.ok
  have hlen := hl.2.1
  have hlen2 : l.length ≤ 1000 := by omega
  have hb : 1001 < sizeLine := by decide
  have hb2 : 3 < sizeLine := by decide
  have hpos : ∀ p ∈ l, 0 < p.2 := fun p hp => (ok p hp).1
  have hl0 : 0 < l.length := List.length_pos_iff.mpr hl.1
  have bl := bestL_len l n
  have bm : ∀ u ∈ bestL l n, 1 ≤ u ∧ u ≤ 1001 := fun u hu => by have := bestL_mem hu; omega
  refine ⟨nd0, l, n, rfl, hl.1, hlen2, ok, hn, by omega, fun p0 => ⟨nvs_map _ _, ?_⟩⟩
  rw [fz_bT]
  refine fun p1 => ⟨fun i acc r => ∃ dl' ts, r = [some (.own a dl'), some (.d (asD l)), some (.d (.int (n : Nat))), some (.d (bD l (bestL l n))), none, none, none, none, none, none, none, none, none, none, none, none, none, none] ∧ DeckOk (kk + (3 - i)) dl' ∧ acc = ts.map (fun x => T.d (.int x)) ∧ ts.length = i ∧ (∀ t ∈ ts, -50 ≤ t ∧ t ≤ (50 : Int)), ⟨dl, [], rfl, hd, rfl, rfl, by simp⟩, fun i x acc r hx hW => ?_, fun acc r hW => ?_⟩
  · obtain ⟨dl', ts, rfl, hd', rfl, ht, hts⟩ := hW
    have hi : i < 3 := by
      have := (List.getElem?_eq_some_iff.mp hx).1
      rw [List.length_map] at this; omega
    refine ⟨fun _ => ⟨nd1, kk + (2 - i), a, dl', 101, rfl, hd'.mono (by omega), by decide, by decide, fun x1 l1 h0 h1 hd1 => ⟨by rw [List.length_map]; omega, l1, ts ++ [x1 - 50], rfl, hd1.mono (by omega), by rw [List.map_append]; rfl, by simp [ht], fun t ht => ?_⟩⟩, nofun⟩
    rcases List.mem_append.mp ht with h | h
    · exact hts t h
    · rw [List.mem_singleton.mp h]; omega
  obtain ⟨dl', ts, rfl, hd', rfl, ht, hts⟩ := hW
  rw [List.length_map] at ht
  refine ⟨nvs_map _ _, ?_⟩
  rw [fz_own p1 PyData.int ts]
  have mp : ∀ p ∈ movedL l ts, 0 < p.2 ∧ p.2 ≤ 100000000000000000 ∧ -10000000000000000000 ≤ p.1 ∧ p.1 ≤ 20000000000000000000 := fun p hp => by
    obtain ⟨i, hi⟩ := List.getElem?_of_mem hp
    unfold movedL at hi
    rw [List.getElem?_zipWith] at hi
    cases e1 : l[i]? with
    | none => rw [e1] at hi; cases hi
    | some z =>
      cases e2 : ts[i]? with
      | none => rw [e1, e2] at hi; cases hi
      | some t =>
        rw [e1, e2] at hi
        cases hi
        obtain ⟨h1, h2, h3, h4⟩ := hl.2.2 z (List.mem_of_getElem? e1)
        obtain ⟨h5, h6⟩ := hts t (List.mem_of_getElem? e2)
        have b1 : t * z.2 ≤ 50 * z.2 := Int.mul_le_mul_of_nonneg_right h6 (by omega)
        have b2 : (-50) * z.2 ≤ t * z.2 := Int.mul_le_mul_of_nonneg_right h5 (by omega)
        refine ⟨h1, h2, ?_, ?_⟩
        · show _ ≤ z.1 + t * z.2; omega
        · show z.1 + t * z.2 ≤ _; omega
  have okm : OkA (movedL l ts) := fun p hp => by
    obtain ⟨h1, h2, h3, h4⟩ := mp p hp
    exact ⟨h1, szB (by omega) (by omega), szB (by omega) (by omega)⟩
  have lm : (movedL l ts).length = l.length := by unfold movedL; rw [List.length_zipWith]; omega
  have hmne : movedL l ts ≠ [] := fun e => hl.1 (List.length_eq_zero_iff.mp (by rw [← lm, e]; rfl))
  have mv : ∀ q, rowF (movedL l ts) q = dueL (rowF l q) ts q ∧ missL (movedL l ts) q = missL l q := fun q => by
    have := moved_row q l ts hpos (by omega)
    exact ⟨this.1, missL_congr this.2⟩
  refine ⟨_, _, rfl, rfl, lc_gen ((movedL l ts).map prI) (by rw [zipD_len, List.length_map, List.length_map, List.length_map]; omega) (by rw [zipD_len, List.length_map, List.length_map]; omega) (fun r0 h0 i x y hx hy R S kk => ?_) fun r0 h0 p2 => ⟨nvs_d _, ?_⟩⟩
  · simp only [wp, puts, List.set_cons_succ, List.set_cons_zero] at h0; subst h0
    obtain ⟨p, t, hp, ht, rfl⟩ := zip_at hx
    rw [movedL, zw_map] at hy
    obtain rfl := zw_at2 hy hp ht
    have b := hts t (List.mem_of_getElem? ht)
    exact ⟨rfl, fun _ => ⟨_, rfl, _, rfl, mulOkL (by omega) (by omega), _, rfl, sz 2, kk _ rfl⟩, nofun⟩
  simp only [wp, puts, List.set_cons_succ, List.set_cons_zero] at h0; subst h0
  rw [fz_outs]
  -- what is due
  refine ⟨sz 0, fun pd => ⟨fun i r => ∃ L s7 s8 s9, r = [some (.own a dl'), some (.d (asD l)), some (.d (.int (n : Nat))), some (.d (bD l (bestL l n))), some (.d (.list (ts.map PyData.int))), some (.d (asD (movedL l ts))), some (.own pd L), s7, s8, s9, none, none, none, none, none, none, none, none] ∧ L = ((bestL l n).take i).map fun u => T.d (trG l (fun q => dueL (rowF l q) ts q) u), ⟨_, _, _, _, rfl, rfl⟩, fun i x r hx hW => ?_, fun r hW => ?_⟩⟩
  · obtain ⟨L, s7, s8, s9, rfl, rfl⟩ := hW
    obtain ⟨u, hu, rfl⟩ := get_fun hx
    have hub := bm u (List.mem_of_getElem? hu)
    refine ⟨rfl, ⟨_, _, rfl, rfl, lc_gen ((dueL (rowF l u) ts u).map PyData.int) ?_ ?_ (fun r0 h0 j x y hx hy R S kk => ?_) fun r0 h0 p3 => ⟨nvs_d _, ?_⟩⟩⟩
    · rw [zipD_len, List.length_map, List.length_map, List.length_map]
      unfold dueL; rw [List.length_zipWith]
    · rw [zipD_len, List.length_map, List.length_map, row_len]; omega
    · simp only [wp, puts, List.set_cons_succ, List.set_cons_zero] at h0; subst h0
      obtain ⟨w, t, hw, ht, rfl⟩ := zip_at hx
      rw [dueL, zw_map] at hy
      obtain rfl := zw_at2 hy hw ht
      exact ⟨rfl, fun _ => ⟨mulOkL (by omega) (by omega), kk _ rfl⟩, nofun⟩
    simp only [wp, puts, List.set_cons_succ, List.set_cons_zero] at h0; subst h0
    rw [fz_outs]
    exact ⟨sz 3, by rw [List.length_map, List.length_take]; omega, _, _, _, _, rfl, by rw [take_succ hu, List.map_append]; rfl⟩
  obtain ⟨L, s7, s8, s9, rfl, hL⟩ := hW
  rw [List.length_map, List.take_length] at hL
  subst hL
  have ldue : ∀ q, (dueL (rowF l q) ts q).length ≤ 1000 := fun q => by rw [← (mv q).1, row_len]; omega
  have bl2 : (bestL l n).length < sizeLine := by omega
  refine ⟨nd0, movedL l ts, n, rfl, hmne, by omega, okm, hn, by omega, fun p3 => ⟨nvs_map _ _, ?_⟩⟩
  rw [fz_bT]
  refine ⟨rfl, nvs_map _ _, ?_⟩
  rw [fz_own pd (trG l fun q => dueL (rowF l q) ts q)]
  refine ifNe (bD_as (fun q => (mv q).2) (fun q => (mv q).1) n) (nest_trG ldue bl2) ?_
  -- turned about
  have rv : ∀ q, rowF l.reverse q = (rowF l q).reverse ∧ missL l.reverse q = missL l q := fun q => ⟨by unfold rowF; rw [List.map_reverse], miss_sub (fun p hp => hpos p (List.mem_reverse.mp hp)) fun p => List.mem_reverse⟩
  refine ⟨nd0, l.reverse, n, by show [T.d (.tuple (l.map prI).reverse), _] = _; rw [← List.map_reverse], by simpa using hl.1, by rw [List.length_reverse]; exact hlen2, fun p hp => ok p (List.mem_reverse.mp hp), hn, by omega, fun p4 => ⟨nvs_map _ _, ?_⟩⟩
  rw [fz_bT]
  refine lc_gen ((bestL l n).map (trG l fun q => (rowF l q).reverse)) (by rw [List.length_map, List.length_map]) (by rw [List.length_map]; omega) (fun r0 h0 i x y hx hy R S kk => ?_) fun r0 h0 p5 => ⟨nvs_d _, ?_⟩
  · simp only [wp, puts, List.set_cons_succ, List.set_cons_zero] at h0; subst h0
    obtain ⟨u, hu, rfl⟩ := get_fun hx
    obtain rfl := get_map2 hy hu
    refine ⟨rfl, fun _ => ⟨sz 3, ?_⟩, nofun⟩
    have e : trG l (fun q => (rowF l q).reverse) u = .tuple [.int u, .tuple ((rowF l u).map PyData.int).reverse, prI (missL l u)] := by unfold trG; rw [List.map_reverse]
    rw [e] at kk
    exact kk _ rfl
  simp only [wp, puts, List.set_cons_succ, List.set_cons_zero] at h0; subst h0
  rw [fz_outs]
  refine ifNe (bD_as (fun q => (rv q).2) (fun q => (rv q).1) n) (nest_trG (fun q => by rw [List.length_reverse, row_len]; exact hlen2) bl2) ?_
  -- with the signs turned
  have okn : OkA (l.map fun p : Int × Int => (0 - p.1, p.2)) := fun z hz => by
    obtain ⟨p, hp, rfl⟩ := List.mem_map.mp hz
    obtain ⟨h1, h2, h3, h4⟩ := hl.2.2 p hp
    exact ⟨h1, szB (show _ ≤ 0 - p.1 by omega) (show 0 - p.1 ≤ _ by omega), szB (by omega) (by omega)⟩
  have en : ∀ q, missL (l.map fun p : Int × Int => (0 - p.1, p.2)) q = missL l q := fun q => missL_congr (by
    rw [List.map_map]
    refine List.map_congr_left fun p hp => ?_
    show ((near (q * (0 - p.1)) p.2).2, p.2) = _
    rw [show q * (0 - p.1) = -(q * p.1) by grind, near_neg _ _ (hpos p hp)])
  refine lc_gen ((l.map fun p : Int × Int => (0 - p.1, p.2)).map prI) (by simp) (by rw [List.length_map]; omega) (fun r0 h0 i x y hx hy R S kk => ?_) fun r0 h0 p6 => ⟨nvs_d _, ?_⟩
  · simp only [wp, puts, List.set_cons_succ, List.set_cons_zero] at h0; subst h0
    obtain ⟨p, hp, rfl⟩ := get_fun hx
    rw [List.map_map] at hy
    obtain rfl := get_map2 hy hp
    exact ⟨rfl, fun _ => ⟨sz 2, kk _ rfl⟩, nofun⟩
  simp only [wp, puts, List.set_cons_succ, List.set_cons_zero] at h0; subst h0
  rw [fz_outs]
  refine ⟨nd0, l.map fun p : Int × Int => (0 - p.1, p.2), n, rfl, by simpa using hl.1, by rw [List.length_map]; exact hlen2, okn, hn, by omega, fun p7 => ⟨nvs_map _ _, ?_⟩⟩
  rw [fz_bT, bestL_congr en]
  generalize (l.map fun p : Int × Int => (0 - p.1, p.2)) = m at *
  have two : ∀ (l' : List (Int × Int)), (∀ q, missL l' q = missL l q) → ∀ (i : Nat) (x y : PyData), ((bestL l n).map (trD l'))[i]? = some x → ((bestL l n).map fun u => PyData.tuple [.int u, prI (missL l u)])[i]? = some y → ∃ u, x = .tuple [.int u, .tuple ((rowF l' u).map PyData.int), prI (missL l u)] ∧ y = .tuple [.int u, prI (missL l u)] := fun l' e i x y hx hy => by
    obtain ⟨u, hu, rfl⟩ := get_fun hx
    obtain rfl := get_map2 hy hu
    exact ⟨u, by unfold trD; rw [e], rfl⟩
  refine lc_gen ((bestL l n).map fun u => PyData.tuple [.int u, prI (missL l u)]) (by rw [List.length_map, List.length_map]) (by rw [List.length_map]; omega) (fun r0 h0 i x y hx hy R S kk => ?_) fun r0 h0 p8 => ⟨nvs_d _, ?_⟩
  · simp only [wp, puts, List.set_cons_succ, List.set_cons_zero] at h0; subst h0
    obtain ⟨u, rfl, rfl⟩ := two m en i x y hx hy
    exact ⟨fun _ => kk _ rfl, nofun⟩
  simp only [wp, puts, List.set_cons_succ, List.set_cons_zero] at h0; subst h0
  rw [fz_outs]
  refine lc_gen ((bestL l n).map fun u => PyData.tuple [.int u, prI (missL l u)]) (by rw [List.length_map, List.length_map]) (by rw [List.length_map]; omega) (fun r0 h0 i x y hx hy R S kk => ?_) fun r0 h0 p9 => ⟨nvs_d _, ?_⟩
  · simp only [wp, puts, List.set_cons_succ, List.set_cons_zero] at h0; subst h0
    obtain ⟨u, rfl, rfl⟩ := two l (fun _ => rfl) i x y hx hy
    exact ⟨fun _ => kk _ rfl, nofun⟩
  simp only [wp, puts, List.set_cons_succ, List.set_cons_zero] at h0; subst h0
  rw [fz_outs]
  have n2 : Nest 8 (.list ((bestL l n).map fun u => PyData.tuple [.int u, prI (missL l u)])) := ⟨by rw [List.length_map]; exact bl2, fun x hx => by
    obtain ⟨q, _, rfl⟩ := List.mem_map.mp hx
    refine ⟨show 2 < sizeLine by decide, fun x hx => ?_⟩
    simp only [List.mem_cons, List.not_mem_nil, or_false] at hx
    rcases hx with rfl | rfl
    · exact ⟨⟩
    · exact nest_pr (n := 4) _⟩
  refine ifNe rfl n2 ?_
  -- one of them told twice
  have fin : ∀ r : Rho, r[0]? = some (some (.own a dl')) → r[1]? = some (some (.d (asD l))) → r[2]? = some (some (.d (.int (n : Nat)))) → finOk [.own a dl, .d (asD l), .d (.int (n : Nat))] r ∧ Q (.d (.bool true)) (finF [.own a dl, .d (asD l), .d (.int (n : Nat))] r) := fun r h0 h1 h2 => by
    match r, h0, h1, h2 with
    | x :: y :: z :: r, h0, h1, h2 =>
      cases (show x = _ from by simpa using h0)
      cases (show y = _ from by simpa using h1)
      cases (show z = _ from by simpa using h2)
      exact ⟨⟨rfl, ⟨⟩⟩, k dl' (hd'.mono (by omega))⟩
  refine ⟨fun _ => ?_, fun _ => v_R2_law_right_3 (ts := []) (Q := fun _ _ => True) hl hn hn2 fin⟩
  have lt1 : (l.take 1).length ≤ 1 := List.length_take_le ..
  have tw : ∀ q, rowF (l ++ l.take 1) q = rowF l q ++ (rowF l q).take 1 ∧ missL (l ++ l.take 1) q = missL l q := fun q => ⟨by unfold rowF; rw [List.map_append, List.map_take], (miss_sub hpos fun p => ⟨fun h => List.mem_append_left _ h, fun h => (List.mem_append.mp h).elim id fun h => List.mem_of_mem_take h⟩).symm⟩
  have c1 : cutL (l.map prI) none (some 1) = (l.take 1).map prI := by rw [cut_head (by rw [List.length_map]; exact hl0), List.map_take]
  have c2 : ∀ q, cutL ((rowF l q).map PyData.int) none (some 1) = ((rowF l q).take 1).map PyData.int := fun q => by rw [cut_head (by rw [List.length_map, row_len]; exact hl0), List.map_take]
  have tr1 : ∀ q, ((rowF l q).take 1).length ≤ 1 := fun q => List.length_take_le ..
  refine ⟨by rw [c1, List.length_map, List.length_map]; exact Nat.le_trans (show l.length + (l.take 1).length ≤ 1000 by omega) (by decide), nd0, l ++ l.take 1, n, by rw [c1, ← List.map_append], by simp [hl.1], by rw [List.length_append]; omega, fun p hp => (List.mem_append.mp hp).elim (ok p) fun h => ok p (List.mem_of_mem_take h), hn, by omega, fun p10 => ⟨nvs_map _ _, ?_⟩⟩
  rw [fz_bT]
  refine lc_gen ((bestL l n).map (trG l fun q => rowF l q ++ (rowF l q).take 1)) (by rw [List.length_map, List.length_map]) (by rw [List.length_map]; omega) (fun r0 h0 i x y hx hy R S kk => ?_) fun r0 h0 p11 => ⟨nvs_d _, ?_⟩
  · simp only [wp, puts, List.set_cons_succ, List.set_cons_zero] at h0; subst h0
    obtain ⟨u, hu, rfl⟩ := get_fun hx
    obtain rfl := get_map2 hy hu
    refine ⟨rfl, fun _ => ⟨by rw [c2, List.length_map, List.length_map, row_len]; have := tr1 u; omega, sz 3, ?_⟩, nofun⟩
    have e : trG l (fun q => rowF l q ++ (rowF l q).take 1) u = .tuple [.int u, .tuple ((rowF l u).map PyData.int ++ cutL ((rowF l u).map PyData.int) none (some 1)), prI (missL l u)] := by unfold trG; rw [List.map_append, c2]
    rw [e] at kk
    exact kk _ rfl
  simp only [wp, puts, List.set_cons_succ, List.set_cons_zero] at h0; subst h0
  rw [fz_outs]
  exact ifNe (bD_as (fun q => (tw q).2) (fun q => (tw q).1) n) (nest_trG (fun q => by have := tr1 q; rw [List.length_append, row_len]; omega) bl2) (v_R2_law_right_3 (ts := []) (Q := fun _ _ => True) hl hn hn2 fin)
theorem zero_last {l : List (Int × Int)} (ok : OkA l) {s n : Nat} (h1 : 1 ≤ s) (h2 : s ≤ n) (hs : (missL l s).1 = 0) : ∃ w : Int, (bestL l n).getLast? = some w ∧ 1 ≤ w ∧ w ≤ s ∧ (missL l w).1 = 0 := by
  have bo := bestL_ok ok s
  have hne : bestL l s ≠ [] := fun e => by
    have := bo.head h1
    rw [e] at this; cases this
  obtain ⟨w, hw⟩ : ∃ w, (bestL l s).getLast? = some w := ⟨_, List.getLast?_eq_getLast hne⟩
  obtain ⟨w1, w2, w3⟩ := bo.last w hw
  have hl := w3 s (by omega) (Int.le_refl _)
  have hz : (missL l w).1 = 0 := by
    have h3 : ¬ ((missL l s).1 * (missL l w).2 < (missL l w).1 * (missL l s).2) := of_decide_eq_false hl
    rw [hs, Int.zero_mul] at h3
    have a := (missL_ok (q := w) ok).1
    have b := (missL_ok (q := (s : Int)) ok).2.1
    rcases Int.lt_or_le 0 (missL l w).1 with c | c
    · exact absurd (Int.mul_pos c b) h3
    · omega
  obtain ⟨d, rfl⟩ : ∃ d, n = s + d := ⟨n - s, by omega⟩
  have e : bestL l (s + d) = bestL l s := bestL_stay hw d fun j _ _ => by
    refine decide_eq_false ?_
    rw [hz, Int.zero_mul]
    have := Int.mul_nonneg (missL_ok (q := j) ok).1 (Int.le_of_lt (missL_ok (q := w) ok).2.1)
    omega
  rw [e]
  exact ⟨w, hw, w1, w2, hz⟩
theorem off_of_zero {l : List (Int × Int)} {q : Int} (hp : ∀ p ∈ l, 0 < p.2) (h : (missL l q).1 = 0) : ∀ p ∈ l, (near (q * p.1) p.2).2 = 0 := fun p h1 => by
  have hpp := hp p h1
  obtain ⟨a1, a2, a3, a4⟩ := missF_max (q := q) l (0, 1) (by decide) hp
  have e : (missF l q).1 = 0 := by
    have eA : (missF l q).1 = Int.gcd (missF l q).1 (missF l q).2 * (missL l q).1 := (Int.mul_ediv_cancel' (Int.gcd_dvd_left ..)).symm
    rw [eA, h, Int.mul_zero]
  have h3 : (near (q * p.1) p.2).2 * (missF l q).2 ≤ (missF l q).1 * p.2 := a3 p h1
  rw [e, Int.zero_mul] at h3
  have h4 := (near_off (a := q * p.1) hpp).1
  have a1' : 0 < (missF l q).2 := a1
  rcases Int.lt_or_le 0 (near (q * p.1) p.2).2 with c | c
  · have := Int.mul_pos c a1'
    omega
  · omega
theorem dvd_of_near {x b : Int} (hb : 0 < b) (h : (near x b).2 = 0) : b ∣ x := by
  have h1 := Int.emod_nonneg x (show b ≠ 0 by omega)
  have h2 := Int.emod_lt_of_pos x hb
  have h3 : x - x / b * b = x % b := by
    have := Int.mul_ediv_add_emod x b
    rw [Int.mul_comm b] at this
    omega
  unfold near at h
  rw [h3] at h
  split at h
  · exact Int.dvd_of_emod_eq_zero h
  · have h' : b - x % b = 0 := h
    omega
theorem zero_of_dvd {l : List (Int × Int)} {q : Int} (hp : ∀ p ∈ l, 0 < p.2) (h : ∀ p ∈ l, p.2 ∣ q * p.1) : missL l q = (0, 1) := off_zero (fun p h1 => by
  obtain ⟨d, hd⟩ := h p h1
  rw [hd, Int.mul_comm, near_dvd (hp p h1)]) hp
def L1_law_9 : TS3 := (xFor (xR1 (xC (.int 4))) (xGName 2) (xSeq (xAsg (xD (x1 cTup (xFz (xLc (xSeqI (xFz (xCall sp_law_asking_1 xNoE (xIo 1 xANil)))) (xGTup 2 (xGCons (xGName 7) (xGCons (xGName 8) xGNil))) xYes (xTup (xCons (xD (x2 kMod (xView 7) (x2 kPow (xC (.int 10)) (xC (.int 17))))) (xCons (xD (x2 kAdd (x2 kMod (xView 8) (x2 kPow (xC (.int 10)) (xC (.int 17)))) (xC (.int 1)))) xNil))) [7, 8])))) (xGName 3))
  (xSeq (xIfS (xNot (xTest (xFz (xCall sp_law_right_3 xNoE (xIo 1 (xArg (xView 3) (xArg (x2 cIx (xFz (xLst (xCons (xD (x2 kAdd (xC (.int 1)) (xFz (xCall sp_law_take xNoE (xIo 1 (xArg (xC (.int 1000)) xANil)))))) (xCons (xD (x2 kAdd (xC (.int 1)) (xFz (xCall sp_law_take xNoE (xIo 1 (xArg (xC (.int 60)) xANil)))))) xNil)))) (xFz (xCall sp_law_take xNoE (xIo 1 (xArg (xC (.int 2)) xANil))))) xANil))))))) (xRet (xD (xC (.bool false)))) xNext)
  (xSeq (xAsg (xD (x2 kAdd (xC (.int 1)) (xFz (xCall sp_law_take xNoE (xIo 1 (xArg (xC (.int 300)) xANil)))))) (xGName 4))
  (xSeq (xAsg (xD (x1 cTup (xFz (xLc (xSeqI (xView 3)) (xGTup 2 (xGCons (xGName 7) (xGCons (xGName 8) xGNil))) xYes (xTup (xCons (xMove 7) (xCons (xMove 4) xNil))) [7, 8])))) (xGName 5))
  (xSeq (xAsg (xD (x2 cIx (xFz (xCall sp_best_to xNoE (xArg (xView 5) (xArg (xC (.int 300)) xANil)))) (xNeg (xC (.int 1))))) (xGName 6))
  (xIfS (xOr (xTest (x2 kNe (x2 cIx (xView 6) (xC (.int 2))) (xFz (xTup (xCons (xD (xC (.int 0))) (xCons (xD (xC (.int 1))) xNil)))))) (xOr (xTest (x2 kGt (x2 cIx (xView 6) (xC (.int 0))) (xView 4))) (xTest (x2 kNeI (x2 kMod (xView 4) (x2 cIx (xView 6) (xC (.int 0)))) (xC (.int 0)))))) (xRet (xD (xC (.bool false)))) xNext)))))))
def N_law_9 : List Str := ["_law_script", "_law_deck_here", "_law_turn", "_law_asking_here", "_law_size", "_law_alike", "_law_last", "_law_above", "_law_below_here"]
def body_law_9 : TS3 := (xSeq (xAsg (xCall sp_law_deck xNoE (xArg (xView 0) xANil)) (xGName 1))
  (xSeq L1_law_9
  (xRet (xD (xC (.bool true))))))

theorem v_law_9 (ts Q E) (h : spLaw ts Q E) : body_law_9 { nx := fun r => finOk ts r ∧ Q (.d .none) (finF ts r), rt := fun x r => finOk ts r ∧ Q x (finF ts r) } (start3 N_law_9 ts) := by
  obtain ⟨a, ns, rfl, hl, q⟩ := h
  have hb : 1000 < sizeLine := by decide
  have p17 : CPow 10 17 := ⟨by decide, by decide, by decide⟩
  have e17 : (10 : Int) ^ (17 : Int).toNat = 100000000000000000 := by decide +kernel
  have hp17 : (0 : Int) < 10 ^ (17 : Int).toNat := by rw [e17]; decide
  refine ⟨nd0, a, ns, rfl, hl, fun dk l0 hd0 => ?_⟩
  refine ⟨by decide, by decide, fun i r => ∃ l b c d e f, r = [some (.sc a ns), some (.own dk l), b, c, d, e, f, none, none] ∧ i ≤ 4 ∧ DeckOk (10000 + (4 - i) * 1000) l, ⟨l0, _, _, _, _, _, rfl, by decide, hd0.mono (by decide)⟩, fun i x r hx hW => ?_, fun r hW => ?_⟩
  · obtain ⟨l, b, c, d, e, f, rfl, hi, hd⟩ := hW
    obtain ⟨hi4, rfl⟩ := rangeI_get hx
    refine ⟨nd1, 10000 + (3 - i) * 1000 + 900, dk, l, rfl, hd.mono (by omega), fun p l1 hp hd1 => ?_⟩
    let sm : Int × Int → Int × Int := fun p => (p.1 % 10 ^ (17 : Int).toNat, p.2 % 10 ^ (17 : Int).toNat + 1)
    have hs : AskV (p.map sm) := ⟨by simpa using hp.1, by rw [List.length_map]; exact hp.2.1, fun z hz => by
      obtain ⟨y, hy, rfl⟩ := List.mem_map.mp hz
      have a0 := Int.emod_nonneg y.1 (show ((10 : Int) ^ (17 : Int).toNat) ≠ 0 by rw [e17]; decide)
      have a1 := Int.emod_lt_of_pos y.1 hp17
      have b0 := Int.emod_nonneg y.2 (show ((10 : Int) ^ (17 : Int).toNat) ≠ 0 by rw [e17]; decide)
      have b1 := Int.emod_lt_of_pos y.2 hp17
      show 0 < y.2 % 10 ^ (17 : Int).toNat + 1 ∧ y.2 % 10 ^ (17 : Int).toNat + 1 ≤ _ ∧ 0 ≤ y.1 % 10 ^ (17 : Int).toNat ∧ y.1 % 10 ^ (17 : Int).toNat ≤ _
      rw [e17] at a0 a1 b0 b1 ⊢
      omega⟩
    have hplen := hp.2.1
    refine lc_gen ((p.map sm).map prI) (by simp) (by rw [List.length_map]; omega) (fun r0 h0 j x y hx hy R S kk => ?_) fun r0 h0 p1 => ⟨nvs_d _, ?_⟩
    · simp only [wp, puts, List.set_cons_succ, List.set_cons_zero] at h0; subst h0
      obtain ⟨z, hz, rfl⟩ := get_fun hx
      rw [List.map_map] at hy
      obtain rfl := get_map2 hy hz
      exact ⟨rfl, fun _ => ⟨p17, hp17, p17, hp17, sz 2, kk _ rfl⟩, nofun⟩
    simp only [wp, puts, List.set_cons_succ, List.set_cons_zero] at h0; subst h0
    rw [fz_outs]
    generalize p.map sm = m at *
    have okm := hs.ok
    refine ⟨nd1, 10000 + (3 - i) * 1000 + 800, dk, l1, _, rfl, hd1.mono (by omega), by decide, by decide, fun x1 l2 h10 h11 hd2 => ?_⟩
    refine ⟨nd1, 10000 + (3 - i) * 1000 + 700, dk, l2, _, rfl, hd2.mono (by omega), by decide, by decide, fun x2 l3 h20 h21 hd3 => ?_⟩
    refine ⟨sz 2, fun pl => ⟨rfl, nd1, 10000 + (3 - i) * 1000 + 600, dk, l3, _, rfl, hd3.mono (by omega), by decide, by decide, fun x3 l4 h30 h31 hd4 => ?_⟩⟩
    obtain ⟨s, gs, _, ms⟩ := getI_of (l := [PyData.int (1 + x1), .int (1 + x2)]) (i := x3) h30 (by simpa using h31)
    obtain ⟨s, rfl, hs1, hs2⟩ : ∃ s' : Nat, s = .int (s' : Nat) ∧ 1 ≤ s' ∧ s' ≤ 1001 := by
      simp only [List.mem_cons, List.not_mem_nil, or_false] at ms
      rcases ms with rfl | rfl
      · exact ⟨(1 + x1).toNat, by rw [show (((1 + x1).toNat : Nat) : Int) = 1 + x1 by omega], by omega, by omega⟩
      · exact ⟨(1 + x2).toNat, by rw [show (((1 + x2).toNat : Nat) : Int) = 1 + x2 by omega], by omega, by omega⟩
    refine ⟨_, gs, nd1, 10000 + (3 - i) * 1000 + 500, dk, l4, m, s, rfl, hd4.mono (by omega), hs, hs1, hs2, fun l5 hd5 => ⟨nofun, fun _ => ?_⟩⟩
    refine ⟨nd1, 10000 + (3 - i) * 1000, dk, l5, _, rfl, hd5.mono (by omega), by decide, by decide, fun x4 l6 h40 h41 hd6 => ?_⟩
    have hz : ((1 + x4).toNat : Int) = 1 + x4 := by omega
    have hml := hs.2.1
    refine lc_gen ((m.map fun p => (p.1, (1 + x4))).map prI) (by simp) (by rw [List.length_map]; omega) (fun r0 h0 j x y hx hy R S kk => ?_) fun r0 h0 p2 => ⟨nvs_d _, ?_⟩
    · simp only [wp, puts, List.set_cons_succ, List.set_cons_zero] at h0; subst h0
      obtain ⟨u, hu, rfl⟩ := get_fun hx
      rw [List.map_map] at hy
      obtain rfl := get_map2 hy hu
      exact ⟨rfl, fun _ => ⟨sz 2, kk _ rfl⟩, nofun⟩
    simp only [wp, puts, List.set_cons_succ, List.set_cons_zero] at h0; subst h0
    rw [fz_outs]
    have hmm : ∀ p ∈ m.map (fun p => (p.1, (1 + x4))), p.2 = 1 + x4 := fun y hy => by
      obtain ⟨u, _, rfl⟩ := List.mem_map.mp hy
      rfl
    have okz : OkA (m.map fun p => (p.1, (1 + x4))) := fun y hy => by
      obtain ⟨u, hu, rfl⟩ := List.mem_map.mp hy
      exact ⟨show (0 : Int) < 1 + x4 by omega, (okm u hu).2.1, szB (show _ ≤ (1 + x4) by omega) (show (1 + x4) ≤ _ by omega)⟩
    have hzl : (m.map fun p => (p.1, (1 + x4))).length ≤ 1000 := by rw [List.length_map]; omega
    have hzn : m.map (fun p => (p.1, (1 + x4))) ≠ [] := by simpa using hs.1
    generalize m.map (fun p => (p.1, (1 + x4))) = v at *
    have vpos : ∀ p ∈ v, 0 < p.2 := fun p hp => (okz p hp).1
    have zs : missL v (1 + x4) = (0, 1) := zero_of_dvd vpos fun p hp => by rw [hmm p hp]; exact Int.dvd_mul_right ..
    obtain ⟨w, hw, hw1, hw2, hw3⟩ := zero_last okz (s := (1 + x4).toNat) (n := 300) (by omega) (by omega) (by rw [hz, zs])
    have hw4 : missL v w = (0, 1) := off_zero (off_of_zero vpos hw3) vpos
    have hdiv : (1 + x4) % w = 0 := by
      rcases Int.lt_or_le 0 ((1 + x4) % w) with c | c
      · exfalso
        have c2 := Int.emod_lt_of_pos (1 + x4) (show 0 < w by omega)
        have hr : (((1 + x4) % w).toNat : Int) = (1 + x4) % w := by omega
        have z2 : missL v ((((1 + x4) % w).toNat : Nat) : Int) = (0, 1) := zero_of_dvd vpos fun p hp => by
          have d1 := dvd_of_near (vpos p hp) (off_of_zero vpos hw3 p hp)
          rw [hmm p hp] at d1 ⊢
          rw [hr, Int.emod_def, Int.sub_mul]
          refine Int.dvd_sub (Int.dvd_mul_right ..) ?_
          rw [show w * ((1 + x4) / w) * p.1 = (w * p.1) * ((1 + x4) / w) by grind]
          exact Int.dvd_trans d1 (Int.dvd_mul_right ..)
        obtain ⟨w', g1, g2, g3, g4⟩ := zero_last okz (s := ((1 + x4) % w).toNat) (n := 300) (by omega) (by omega) (by rw [z2])
        rw [hw] at g1
        cases g1
        omega
      · have := Int.emod_nonneg (1 + x4) (show w ≠ 0 by omega)
        omega
    have sh := nest_shaped (nest_pr (n := 6) (0, 1)) (by decide)
    refine ⟨nd0, v, 300, rfl, hzn, hzl, okz, by omega, by omega, fun p3 => ⟨nvs_map _ _, ?_⟩⟩
    rw [fz_bT]
    have gl : getI ((bestL v 300).map fun q => trD v q) (-1) = some (trD v w) := getI_last (by rw [List.getLast?_map, hw]; rfl)
    refine ⟨_, gl, _, rfl, sz 2, ifNe (y := prI (0, 1)) (by rw [hw4]) (nest_pr (n := 6) _) ?_⟩
    refine ⟨_, rfl, fun hc => ?_, fun _ => ⟨_, rfl, by omega, fun hc => ?_, fun _ => ?_⟩⟩
    · have : (1 + x4) < w := dT hc
      omega
    · have : (!decide ((1 + x4) % w = 0)) = true := hc
      rw [hdiv] at this
      simp at this
    · exact ⟨l6, _, _, _, _, _, rfl, by omega, hd6.mono (by omega)⟩
  · obtain ⟨l, b, c, d, e, f, rfl, hi, hd⟩ := hW
    exact ⟨⟨⟩, q _⟩
end L3
namespace L3
open PySem PySem.Spec PyProof.Rows L2 TL
local macro_rules | `(tactic| wtm_at "sh") => `(tactic| conv => whnf)
/-! ## refusals -/
def BadA (l : List (Int × Int)) : Prop := l = [] ∨ ∃ p ∈ l, p.2 < 1
theorem bad_not {l : List (Int × Int)} (h : ¬ BadA l) : l ≠ [] ∧ ∀ p ∈ l, 0 < p.2 := ⟨fun e => h (.inl e), fun p hp => by
  rcases Int.lt_or_le p.2 1 with c | c
  · exact absurd (.inr ⟨p, hp, c⟩) h
  · omega⟩
def N_need_asking_x : List Str := ["asking", "above", "below"]
def body_need_asking_x (cN : Str → Addr) : TS3 := (xIfS (xOr (xTest (x2 kEq (xView 0) (xFz (xTup xNil)))) (xTest (x2 kNe (xFz (xLc (xSeqI (xView 0)) (xGTup 2 (xGCons (xGName 1) (xGCons (xGName 2) xGNil))) (xTest (x2 kLt (xView 2) (xC (.int 1)))) (xMove 2) [1, 2])) (xFz (xLst xNil))))) (xRaise (cN "NoAsking")) xNext)

def sp_need_asking_x (cN : Str → Addr) : Sp3 := fun ts Q E => ∃ l, ts = [.d (asD l)] ∧ l.length ≤ 1000 ∧ ((BadA l ∧ E (cN "NoAsking") ts) ∨ (l ≠ [] ∧ (∀ p ∈ l, 0 < p.2) ∧ Q (.d .none) ts))
theorem nest_lints {l : List Int} (h : l.length < sizeLine) : Nest 8 (.list (l.map PyData.int)) := ⟨by rw [List.length_map]; exact h, fun x hx => by obtain ⟨z, _, rfl⟩ := List.mem_map.mp hx; exact ⟨⟩⟩
theorem eqv_ints_nil (l : List Int) : PyData.eqv (.list (l.map PyData.int)) (.list []) = decide (l = []) := by
  cases l with
  | nil => rfl
  | cons x l => simp [PyData.eqv, PyData.eqvAll]
theorem v_need_asking_x (cN : Str → Addr) (ts Q E) (h : sp_need_asking_x cN ts Q E) : body_need_asking_x cN { nx := fun r => finOk ts r ∧ Q (.d .none) (finF ts r), rt := fun x r => finOk ts r ∧ Q x (finF ts r), ex := fun C r => finOk ts r ∧ E C (finF ts r) } (start3 N_need_asking_x ts) := by
  obtain ⟨l, rfl, hlen, h⟩ := h
  have hb : 1000 < sizeLine := by decide
  refine ⟨sz 0, shp_asD l, shp_nilT, fun hc => ⟨fun _ => ?_, nofun⟩, fun hc p => ?_⟩
  · rcases h with ⟨_, h⟩ | ⟨hl, _, _⟩
    · exact ⟨⟨⟩, h⟩
    · exact absurd (show PyData.eqv (asD l) (.tuple []) = true from hc) (by rw [eqv_nil (by simpa using hl)]; decide)
  · refine ⟨fun i acc r => r = [some (.d (asD l)), none, none] ∧ acc = (((l.take i).map Prod.snd).filter fun x => decide (x < 1)).map (fun x => T.d (.int x)), ⟨rfl, rfl⟩, fun i x acc r hx hW => ?_, fun acc r hW => ?_⟩
    · obtain ⟨rfl, rfl⟩ := hW
      obtain ⟨z, hz, rfl, hm⟩ := get_map hx
      have sz2 : ((((l.take i).map Prod.snd).filter fun x => decide (x < 1)).map (fun x => T.d (.int x))).length < sizeLine := by
        rw [List.length_map]
        have := List.length_filter_le (fun x : Int => decide (x < 1)) ((l.take i).map Prod.snd)
        rw [List.length_map, List.length_take] at this
        omega
      refine ⟨rfl, fun hc => ⟨sz2, rfl, ?_⟩, fun hc => ⟨rfl, ?_⟩⟩
      · rw [take_succ hz, List.map_append, List.filter_append, List.map_append, List.map_cons, List.map_nil, List.filter_cons_of_pos (by exact hc)]
        rfl
      · rw [take_succ hz, List.map_append, List.filter_append, List.map_append, List.map_cons, List.map_nil, List.filter_cons_of_neg (by rw [show decide (z.snd < 1) = false from hc]; decide)]
        simp
    · obtain ⟨rfl, hacc⟩ := hW
      rw [List.length_map, List.take_length] at hacc
      subst hacc
      have fl : (((l.map Prod.snd).filter fun x => decide (x < 1))).length < sizeLine := by
        have := List.length_filter_le (fun x : Int => decide (x < 1)) (l.map Prod.snd)
        rw [List.length_map] at this
        omega
      have key : ((l.map Prod.snd).filter fun x => decide (x < 1)) = [] ↔ ∀ p ∈ l, 0 < p.2 := by
        rw [List.filter_eq_nil_iff]
        constructor
        · intro h p hp
          have := h p.2 (List.mem_map.mpr ⟨p, hp, rfl⟩)
          have h2 : ¬ p.2 < 1 := fun c => this (decide_eq_true c)
          omega
        · intro h x hx
          obtain ⟨p, hp, rfl⟩ := List.mem_map.mp hx
          have := h p hp
          exact fun c => by have := of_decide_eq_true c; omega
      refine ⟨nvs_map _ _, sz 0, fun p => ⟨rfl, ?_⟩⟩
      rw [fz_own _ PyData.int ((l.map Prod.snd).filter fun x => decide (x < 1))]
      refine ⟨nest_shaped (nest_lints fl) (by decide), shp_nilL, ?_⟩
      show ((!PyData.eqv (.list (((l.map Prod.snd).filter fun x => decide (x < 1)).map PyData.int)) (.list [])) = true → _) ∧ ((!PyData.eqv (.list (((l.map Prod.snd).filter fun x => decide (x < 1)).map PyData.int)) (.list [])) = false → _)
      rw [eqv_ints_nil]
      rcases h with ⟨hbad, h⟩ | ⟨hl, hp, h⟩
      · refine ⟨fun _ => ⟨⟨⟩, h⟩, fun hc2 => ?_⟩
        have e : ((l.map Prod.snd).filter fun x => decide (x < 1)) = [] := by simpa using hc2
        rcases hbad with rfl | ⟨p, hp, hlt⟩
        · exact absurd (show PyData.eqv (asD []) (.tuple []) = false from hc) (by decide)
        · have := key.mp e p hp
          omega
      · refine ⟨fun hc2 => ?_, fun _ => ⟨⟨⟩, h⟩⟩
        rw [key.mpr hp] at hc2
        simp at hc2
def N_need_from_one_x : List Str := ["number"]
def body_need_from_one_x (cN : Str → Addr) : TS3 := (xIfS (xTest (x2 kLt (xView 0) (xC (.int 1)))) (xRaise (cN "NoNumber")) xNext)

def sp_need_from_one_x (cN : Str → Addr) : Sp3 := fun ts Q E => ∃ q, ts = [.d (.int q)] ∧ ((q < 1 ∧ E (cN "NoNumber") ts) ∨ (1 ≤ q ∧ Q (.d .none) ts))
theorem v_need_from_one_x (cN : Str → Addr) (ts Q E) (h : sp_need_from_one_x cN ts Q E) : body_need_from_one_x cN { nx := fun r => finOk ts r ∧ Q (.d .none) (finF ts r), rt := fun x r => finOk ts r ∧ Q x (finF ts r), ex := fun C r => finOk ts r ∧ E C (finF ts r) } (start3 N_need_from_one_x ts) := by
  obtain ⟨q, rfl, h⟩ := h
  rcases h with ⟨hq, h⟩ | ⟨hq, h⟩
  · refine ⟨fun _ => ⟨⟨⟩, h⟩, fun hc => ?_⟩
    have := dF hc
    omega
  · refine ⟨fun hc => ?_, fun hc => ⟨⟨⟩, h⟩⟩
    have := dT hc
    omega
def N_near_row_x : List Str := ["asking", "q", "row", "miss", "above", "below", "whole", "off"]
def body_near_row_x (cN : Str → Addr) : TS3 := (xSeq (xDropX (xCallX (sp_need_asking_x cN) (xArg (xView 0) xANil)))
  (xSeq (xDropX (xCallX (sp_need_from_one_x cN) (xArg (xView 1) xANil)))
  (xNox (xSeq (xAsg (xLst xNil) (xGName 2))
  (xSeq (xAsg (xTup (xCons (xD (xC (.int 0))) (xCons (xD (xC (.int 1))) xNil))) (xGName 3))
  (xSeq (xFor (xSeqI (xView 0)) (xGTup 2 (xGCons (xGName 4) (xGCons (xGName 5) xGNil))) (xSeq (xAsg (xCall sp_nearest_to xNoE (xArg (x2 kMul (xView 1) (xView 4)) (xArg (xView 5) xANil))) (xGTup 2 (xGCons (xGName 6) (xGCons (xGName 7) xGNil))))
  (xSeq (xDrop (xApp 2 (xMove 6)))
  (xIfS (xTest (xFz (xCall sp_is_more xNoE (xArg (xFz (xTup (xCons (xMove 7) (xCons (xMove 5) xNil)))) (xArg (xView 3) xANil))))) (xAsg (xTup (xCons (xMove 7) (xCons (xMove 5) xNil))) (xGName 3)) xNext))))
  (xRet (xTup (xCons (xD (x1 cTup (xView 2))) (xCons (xCall sp_in_least xNoE (xArg (x2 cIx (xView 3) (xC (.int 0))) (xArg (x2 cIx (xView 3) (xC (.int 1))) xANil))) xNil))))))))))

def sp_near_row_x (cN : Str → Addr) : Sp3 := fun ts Q E => ∃ l q, ts = [.d (asD l), .d (.int q)] ∧ l.length ≤ 1000 ∧ ((BadA l ∧ E (cN "NoAsking") ts) ∨ (l ≠ [] ∧ (∀ p ∈ l, 0 < p.2) ∧ q < 1 ∧ E (cN "NoNumber") ts) ∨ (l ≠ [] ∧ OkA l ∧ 1 ≤ q ∧ Sz 2000 q ∧ Q (.d (nrD l q)) ts))
theorem wk_near_row (cN : Str → Addr) : ∀ ts Q, sp_near_row ts Q xNoE → sp_near_row_x cN ts Q xNoE := fun ts Q ⟨l, q, e, h1, h2, h3, h4, h5, h6⟩ => ⟨l, q, e, h2, .inr (.inr ⟨h1, h3, h4, h5, h6⟩)⟩
theorem v_near_row_x (cN : Str → Addr) (ts Q E) (h : sp_near_row_x cN ts Q E) : body_near_row_x cN { nx := fun r => finOk ts r ∧ Q (.d .none) (finF ts r), rt := fun x r => finOk ts r ∧ Q x (finF ts r), ex := fun C r => finOk ts r ∧ E C (finF ts r) } (start3 N_near_row_x ts) := by
  obtain ⟨l, q, rfl, hlen, h⟩ := h
  rcases h with ⟨hb, h⟩ | ⟨hl, hp, hq, h⟩ | ⟨hl, ok, hq, sq, h⟩
  · exact ⟨nd0, l, rfl, hlen, .inl ⟨hb, ⟨⟩, h⟩⟩
  · exact ⟨nd0, l, rfl, hlen, .inr ⟨hl, hp, nd0, q, rfl, .inl ⟨hq, ⟨⟩, h⟩⟩⟩
  · obtain ⟨_, l', e1, _, _, _, q', e2, _, rest⟩ := v_near_row [.d (asD l), .d (.int q)] Q (fun _ _ => False) ⟨l, q, rfl, hl, hlen, ok, hq, sq, h⟩
    exact ⟨nd0, l, rfl, hlen, .inr ⟨hl, fun p hp => (ok p hp).1, nd0, q, rfl, .inr ⟨hq, rest⟩⟩⟩
def N_asking_shown_x : List Str := ["asking", "words", "above", "below", "one"]
def body_asking_shown_x (cN : Str → Addr) : TS3 := (xSeq (xDropX (xCallX (sp_need_asking_x cN) (xArg (xView 0) xANil)))
  (xNox (xSeq (xAsg (xLst xNil) (xGName 1))
  (xSeq (xFor (xSeqI (xView 0)) (xGTup 2 (xGCons (xGName 2) (xGCons (xGName 3) xGNil))) (xSeq (xAsg (xCall sp_in_least xNoE (xArg (xView 2) (xArg (xView 3) xANil))) (xGName 4))
  (xDrop (xApp 1 (x2 cAdd (xFz (x2 cAdd (x1 cStr (x2 cIx (xView 4) (xC (.int 0)))) (xC (.str "/")))) (x1 cStr (x2 cIx (xView 4) (xC (.int 1)))))))))
  (xRet (xD (xJoin (xC (.str " ")) (xView 1))))))))

def sp_asking_shown_x (cN : Str → Addr) : Sp3 := fun ts Q E => ∃ l, ts = [.d (asD l)] ∧ ((BadA l ∧ l.length ≤ 1000 ∧ E (cN "NoAsking") ts) ∨ (l ≠ [] ∧ l.length ≤ 10 ∧ (∀ p ∈ l, OkT p) ∧ Q (.d (.str (askS (l.map leastP)))) ts))
theorem wk_asking_shown (cN : Str → Addr) : ∀ ts Q, sp_asking_shown ts Q xNoE → sp_asking_shown_x cN ts Q xNoE := fun ts Q ⟨l, e, h1, h2, h3, h4⟩ => ⟨l, e, .inr ⟨h1, h2, h3, h4⟩⟩
theorem v_asking_shown_x (cN : Str → Addr) (ts Q E) (h : sp_asking_shown_x cN ts Q E) : body_asking_shown_x cN { nx := fun r => finOk ts r ∧ Q (.d .none) (finF ts r), rt := fun x r => finOk ts r ∧ Q x (finF ts r), ex := fun C r => finOk ts r ∧ E C (finF ts r) } (start3 N_asking_shown_x ts) := by
  obtain ⟨l, rfl, h⟩ := h
  rcases h with ⟨hb, hlen, h⟩ | ⟨hl, hlen, ok, h⟩
  · exact ⟨nd0, l, rfl, hlen, .inl ⟨hb, ⟨⟩, h⟩⟩
  · obtain ⟨_, l', e1, _, _, rest⟩ := v_asking_shown [.d (asD l)] Q (fun _ _ => False) ⟨l, rfl, hl, hlen, ok, h⟩
    exact ⟨nd0, l, rfl, by omega, .inr ⟨hl, fun p hp => (ok p hp).1, rest⟩⟩
def N_best_to_x : List Str := ["asking", "bound", "found", "q", "row", "miss"]
def body_best_to_x (cN : Str → Addr) : TS3 := (xSeq (xDropX (xCallX (sp_need_asking_x cN) (xArg (xView 0) xANil)))
  (xSeq (xDropX (xCallX (sp_need_from_one_x cN) (xArg (xView 1) xANil)))
  (xNox (xSeq (xAsg (xLst xNil) (xGName 2))
  (xSeq (xFor (xR2 (xC (.int 1)) (x2 kAdd (xView 1) (xC (.int 1)))) (xGName 3) (xSeq (xAsg (xCall sp_near_row xNoE (xArg (xView 0) (xArg (xView 3) xANil))) (xGTup 2 (xGCons (xGName 4) (xGCons (xGName 5) xGNil))))
  (xIfS (xOr (xTest (x2 kEq (xView 2) (xFz (xLst xNil)))) (xTest (xFz (xCall sp_is_more xNoE (xArg (x2 cIx (x2 cIx (xView 2) (xNeg (xC (.int 1)))) (xC (.int 2))) (xArg (xView 5) xANil)))))) (xDrop (xApp 2 (xTup (xCons (xMove 3) (xCons (xMove 4) (xCons (xMove 5) xNil)))))) xNext)))
  (xRet (xMove 2)))))))

def sp_best_to_x (cN : Str → Addr) : Sp3 := fun ts Q E => ∃ l n, ts = [.d (asD l), .d (.int n)] ∧ l.length ≤ 1000 ∧ ((BadA l ∧ E (cN "NoAsking") ts) ∨ (l ≠ [] ∧ (∀ p ∈ l, 0 < p.2) ∧ n < 1 ∧ E (cN "NoNumber") ts) ∨ ∃ m : Nat, n = (m : Nat) ∧ l ≠ [] ∧ OkA l ∧ 1 ≤ m ∧ m ≤ 100000 ∧ ∀ p, Q (bT l p (bestL l m)) ts)
theorem v_best_to_x (cN : Str → Addr) (ts Q E) (h : sp_best_to_x cN ts Q E) : body_best_to_x cN { nx := fun r => finOk ts r ∧ Q (.d .none) (finF ts r), rt := fun x r => finOk ts r ∧ Q x (finF ts r), ex := fun C r => finOk ts r ∧ E C (finF ts r) } (start3 N_best_to_x ts) := by
  obtain ⟨l, n, rfl, hlen, h⟩ := h
  rcases h with ⟨hb, h⟩ | ⟨hl, hp, hq, h⟩ | ⟨m, rfl, hl, ok, h1, h2, h⟩
  · exact ⟨nd0, l, rfl, hlen, .inl ⟨hb, ⟨⟩, h⟩⟩
  · exact ⟨nd0, l, rfl, hlen, .inr ⟨hl, hp, nd0, n, rfl, .inl ⟨hq, ⟨⟩, h⟩⟩⟩
  · obtain ⟨_, l', e1, _, _, _, q', e2, _, rest⟩ := v_best_to [.d (asD l), .d (.int (m : Nat))] Q (fun _ _ => False) ⟨l, m, rfl, hl, hlen, ok, h1, h2, h⟩
    exact ⟨nd0, l, rfl, hlen, .inr ⟨hl, fun p hp => (ok p hp).1, nd0, m, rfl, .inr ⟨by omega, rest⟩⟩⟩
def N_next_through_x : List Str := ["asking", "q", "row", "least", "number", "miss"]
def body_next_through_x (cN : Str → Addr) : TS3 := (xSeq (xAsgX (xCallX (sp_near_row_x cN) (xArg (xView 0) (xArg (xView 1) xANil))) (xGTup 2 (xGCons (xGName 2) (xGCons (xGName 3) xGNil))))
  (xNox (xSeq (xIfS (xTest (x2 kEqI (x2 cIx (xView 3) (xC (.int 0))) (xC (.int 0)))) (xRet (xD (xC .none))) xNext)
  (xSeq (xAsg (xMove 1) (xGName 4))
  (xSeq (xAsg (xMove 3) (xGName 5))
  (xSeq (xWhile (xNot (xTest (xFz (xCall sp_is_more xNoE (xArg (xView 3) (xArg (xView 5) xANil)))))) (xSeq (xAugAdd 4 (xC (.int 1)))
  (xAsg (xCall sp_near_row xNoE (xArg (xView 0) (xArg (xView 4) xANil))) (xGTup 2 (xGCons (xGName 2) (xGCons (xGName 5) xGNil))))))
  (xRet (xTup (xCons (xMove 4) (xCons (xMove 2) (xCons (xMove 5) xNil)))))))))))

def sp_next_through_x (cN : Str → Addr) : Sp3 := fun ts Q E => ∃ l q, ts = [.d (asD l), .d (.int q)] ∧ l.length ≤ 1000 ∧ ((BadA l ∧ E (cN "NoAsking") ts) ∨ (l ≠ [] ∧ (∀ p ∈ l, 0 < p.2) ∧ q < 1 ∧ E (cN "NoNumber") ts) ∨ ∃ r, l ≠ [] ∧ OkA l ∧ 1 ≤ q ∧ Sz 1900 q ∧ NextIs l q r ∧ Q (.d r) ts)
theorem v_next_through_x (cN : Str → Addr) (ts Q E) (h : sp_next_through_x cN ts Q E) : body_next_through_x cN { nx := fun r => finOk ts r ∧ Q (.d .none) (finF ts r), rt := fun x r => finOk ts r ∧ Q x (finF ts r), ex := fun C r => finOk ts r ∧ E C (finF ts r) } (start3 N_next_through_x ts) := by
  obtain ⟨l, q, rfl, hlen, h⟩ := h
  rcases h with ⟨hb, h⟩ | ⟨hl, hp, hq, h⟩ | ⟨r, hl, ok, h1, h2, h3, h⟩
  · exact ⟨nd0, l, q, rfl, hlen, .inl ⟨hb, ⟨⟩, h⟩⟩
  · exact ⟨nd0, l, q, rfl, hlen, .inr (.inl ⟨hl, hp, hq, ⟨⟩, h⟩)⟩
  · obtain ⟨_, l', q', e1, k1, k2, k3, k4, k5, rest⟩ := v_next_through [.d (asD l), .d (.int q)] Q (fun _ _ => False) ⟨l, q, r, rfl, hl, hlen, ok, h1, h2, h3, h⟩
    exact ⟨nd0, l', q', e1, k2, .inr (.inr ⟨k1, k3, k4, k5, rest⟩)⟩
def N_best_of_one_x : List Str := ["fraction", "asking", "above", "below", "ahead", "number", "found", "rest", "row", "miss", "steps"]
def body_best_of_one_x (cN : Str → Addr) : TS3 := (xSeq (xAsg (xTup (xCons (xMove 0) xNil)) (xGName 1))
  (xSeq (xDropX (xCallX (sp_need_asking_x cN) (xArg (xView 1) xANil)))
  (xNox (xSeq (xAsg (xCall sp_in_least xNoE (xArg (x2 cIx (xView 0) (xC (.int 0))) (xArg (x2 cIx (xView 0) (xC (.int 1))) xANil))) (xGTup 2 (xGCons (xGName 2) (xGCons (xGName 3) xGNil))))
  (xSeq (xAsg (xD (xC (.int 0))) (xGName 4))
  (xSeq (xAsg (xD (xC (.int 1))) (xGName 5))
  (xSeq (xAsg (xLst xNil) (xGName 6))
  (xSeq (xAsg (xD (x2 kMod (xView 2) (xView 3))) (xGName 7))
  (xWhile (xTest (xC (.bool true))) (xSeq (xIfS (xAnd (xTest (x2 kNe (xView 6) (xFz (xLst xNil)))) (xTest (x2 kEq (x2 cIx (x2 cIx (xView 6) (xNeg (xC (.int 1)))) (xC (.int 0))) (xView 5)))) (xDrop (xPop 6)) xNext)
  (xSeq (xAsg (xCall sp_near_row xNoE (xArg (xView 1) (xArg (xView 5) xANil))) (xGTup 2 (xGCons (xGName 8) (xGCons (xGName 9) xGNil))))
  (xSeq (xDrop (xApp 6 (xTup (xCons (xMove 5) (xCons (xMove 8) (xCons (xMove 9) xNil))))))
  (xSeq (xIfS (xTest (x2 kEqI (xView 7) (xC (.int 0)))) (xRet (xMove 6)) xNext)
  (xSeq (xAsg (xD (x2 kDiv (xView 3) (xView 7))) (xGName 10))
  (xSeq (xPar 4 5 (xCons (xMove 5) (xCons (xD (x2 kAdd (x2 kMul (xView 10) (xView 5)) (xView 4))) xNil)))
  (xPar 3 7 (xCons (xMove 7) (xCons (xD (x2 kMod (xView 3) (xView 7))) xNil))))))))))))))))))

def sp_best_of_one_x (cN : Str → Addr) : Sp3 := fun ts Q E => ∃ A B, ts = [.d (prI (A, B))] ∧ ((B < 1 ∧ E (cN "NoAsking") ts) ∨ (0 < B ∧ Sz 1800 A ∧ Sz 1800 B ∧ ∀ p (m : Nat), Q (bT [(A, B)] p (bestL [(A, B)] m)) ts))
theorem v_best_of_one_x (cN : Str → Addr) (ts Q E) (h : sp_best_of_one_x cN ts Q E) : body_best_of_one_x cN { nx := fun r => finOk ts r ∧ Q (.d .none) (finF ts r), rt := fun x r => finOk ts r ∧ Q x (finF ts r), ex := fun C r => finOk ts r ∧ E C (finF ts r) } (start3 N_best_of_one_x ts) := by
  obtain ⟨A, B, rfl, h⟩ := h
  rcases h with ⟨hb, h⟩ | ⟨hB, sA, sB, h⟩
  · exact ⟨sz 1, nd0, [(A, B)], rfl, (show 1 ≤ 1000 by decide), .inl ⟨.inr ⟨(A, B), by simp, hb⟩, ⟨⟩, h⟩⟩
  · obtain ⟨_, _, l', e1, _, _, rest⟩ := v_best_of_one [.d (prI (A, B))] Q (fun _ _ => False) ⟨A, B, rfl, hB, sA, sB, fun p m _ _ _ _ _ _ => h p m⟩
    exact ⟨sz 1, nd0, [(A, B)], rfl, (show 1 ≤ 1000 by decide), .inr ⟨by simp, fun p hp => by rw [List.mem_singleton.mp hp]; exact hB, rest⟩⟩
/-- askings so small that all can be asked of them -/
def SmallA (l : List (Int × Int)) : Prop := l ≠ [] ∧ l.length ≤ 3 ∧ ∀ p ∈ l, 0 < p.2 ∧ p.2 ≤ 14 ∧ -1000000000000000000000 ≤ p.1 ∧ p.1 ≤ 1000000000000000000000
theorem SmallA.ok {l : List (Int × Int)} (h : SmallA l) : OkA l := fun p hp => by
  obtain ⟨h1, h2, h3, h4⟩ := h.2.2 p hp
  exact ⟨h1, szB (by omega) (by omega), szB (by omega) (by omega)⟩
theorem dvd14 {b : Int} (h0 : 0 < b) (h1 : b ≤ 14) : b ∣ 360360 := by
  rcases (show b = 1 ∨ b = 2 ∨ b = 3 ∨ b = 4 ∨ b = 5 ∨ b = 6 ∨ b = 7 ∨ b = 8 ∨ b = 9 ∨ b = 10 ∨ b = 11 ∨ b = 12 ∨ b = 13 ∨ b = 14 by omega) with rfl | rfl | rfl | rfl | rfl | rfl | rfl | rfl | rfl | rfl | rfl | rfl | rfl | rfl <;> decide
theorem small_next {l : List (Int × Int)} {q : Int} (h : SmallA l) (h1 : 1 ≤ q) (h2 : q ≤ 300) : ∃ r, NextIs l q r := by
  have ok := h.ok
  by_cases hz : (missL l q).1 = 0
  · exact ⟨.none, .inl ⟨hz, rfl⟩⟩
  · have z : missL l (360360 * (q + 1)) = (0, 1) := zero_of_dvd (fun p hp => (ok p hp).1) fun p hp => by
      obtain ⟨a1, a2, _⟩ := h.2.2 p hp
      rw [Int.mul_assoc]
      exact Int.dvd_trans (dvd14 a1 a2) (Int.dvd_mul_right ..)
    have hl : lessM l q (360360 * (q + 1)) = true := by
      refine decide_eq_true ?_
      rw [z]
      show 0 * _ < (missL l q).1 * 1
      have := (missL_ok (q := q) ok).1
      omega
    obtain ⟨m, _, _, hm⟩ := next_ex ok (show q < 360360 * (q + 1) by omega) hl (by unfold Sz; exact Nat.lt_of_lt_of_le (show (360360 * (q + 1)).natAbs < 2 ^ 40 by omega) (Nat.pow_le_pow_right (by decide) (by decide))) h1
    exact ⟨_, hm⟩
/-- how an asking ends: with a refusal, or not -/
def Asked (way : Int) (l : List (Int × Int)) (q : Int) (o : Option Str) : Prop :=
  (l.length ≤ 1000 ∧ BadA l ∧ 0 ≤ way ∧ way ≤ 3 ∧ o = some "NoAsking") ∨ (l.length ≤ 1000 ∧ l ≠ [] ∧ (∀ p ∈ l, 0 < p.2) ∧ q < 1 ∧ 0 ≤ way ∧ way ≤ 2 ∧ o = some "NoNumber") ∨
    (∃ A B, l = [(A, B)] ∧ B < 1 ∧ way = 4 ∧ o = some "NoAsking") ∨ (SmallA l ∧ 1 ≤ q ∧ q ≤ 300 ∧ 0 ≤ way ∧ way ≤ 4 ∧ o = none)
def N_law_asked_1_x : List Str := ["_law_way", "_law_asking_here", "_law_number"]
def body_law_asked_1_x (cN : Str → Addr) : TS3 := (xSeq (xIfS (xTest (x2 kEqI (xView 0) (xC (.int 0)))) (xRetX (xCallX (sp_near_row_x cN) (xArg (xView 1) (xArg (xView 2) xANil)))) xNext)
  (xSeq (xIfS (xTest (x2 kEqI (xView 0) (xC (.int 1)))) (xRetX (xCallX (sp_best_to_x cN) (xArg (xView 1) (xArg (xView 2) xANil)))) xNext)
  (xSeq (xIfS (xTest (x2 kEqI (xView 0) (xC (.int 2)))) (xRetX (xCallX (sp_next_through_x cN) (xArg (xView 1) (xArg (xView 2) xANil)))) xNext)
  (xSeq (xIfS (xTest (x2 kEqI (xView 0) (xC (.int 3)))) (xRetX (xCallX (sp_asking_shown_x cN) (xArg (xView 1) xANil))) xNext)
  (xRetX (xCallX (sp_best_of_one_x cN) (xArg (x2 cIx (xView 1) (xNeg (xC (.int 1)))) xANil)))))))

def sp_law_asked_1_x (cN : Str → Addr) : Sp3 := fun ts Q E => ∃ way l q o, ts = [.d (.int way), .d (asD l), .d (.int q)] ∧ Asked way l q o ∧ (∀ n, o = some n → E (cN n) ts) ∧ (o = none → ∀ x, Q x ts)
theorem v_law_asked_1_x (cN : Str → Addr) (ts Q E) (h : sp_law_asked_1_x cN ts Q E) : body_law_asked_1_x cN { nx := fun r => finOk ts r ∧ Q (.d .none) (finF ts r), rt := fun x r => finOk ts r ∧ Q x (finF ts r), ex := fun C r => finOk ts r ∧ E C (finF ts r) } (start3 N_law_asked_1_x ts) := by
  obtain ⟨way, l, q, o, rfl, hA, hE, hQ⟩ := h
  have sq : 1 ≤ q → q ≤ 300 → Sz 1900 q := fun h0 h1 => by unfold Sz; exact Nat.lt_of_lt_of_le (show q.natAbs < 2 ^ 10 by omega) (Nat.pow_le_pow_right (by decide) (by decide))
  rcases hA with ⟨hlen, hb, w0, w3, rfl⟩ | ⟨hlen, hne, hp, hq, w0, w2, rfl⟩ | ⟨A, B, rfl, hB, rfl, rfl⟩ | ⟨hs, hq1, hq2, w0, w4, rfl⟩
  · have e := hE _ rfl
    refine ⟨fun _ => ⟨nd0, l, q, rfl, hlen, .inl ⟨hb, ⟨⟩, e⟩⟩, fun h0 => ⟨fun _ => ⟨nd0, l, q, rfl, hlen, .inl ⟨hb, ⟨⟩, e⟩⟩, fun h1 => ⟨fun _ => ⟨nd0, l, q, rfl, hlen, .inl ⟨hb, ⟨⟩, e⟩⟩, fun h2 => ⟨fun _ => ⟨nd0, l, rfl, .inl ⟨hb, hlen, ⟨⟩, e⟩⟩, fun h3 => ?_⟩⟩⟩⟩
    have := dF h0; have := dF h1; have := dF h2; have := dF h3
    omega
  · have e := hE _ rfl
    refine ⟨fun _ => ⟨nd0, l, q, rfl, hlen, .inr (.inl ⟨hne, hp, hq, ⟨⟩, e⟩)⟩, fun h0 => ⟨fun _ => ⟨nd0, l, q, rfl, hlen, .inr (.inl ⟨hne, hp, hq, ⟨⟩, e⟩)⟩, fun h1 => ⟨fun _ => ⟨nd0, l, q, rfl, hlen, .inr (.inl ⟨hne, hp, hq, ⟨⟩, e⟩)⟩, fun h2 => ?_⟩⟩⟩
    have := dF h0; have := dF h1; have := dF h2
    omega
  · have e := hE _ rfl
    exact ⟨nofun, fun _ => ⟨nofun, fun _ => ⟨nofun, fun _ => ⟨nofun, fun _ => ⟨_, rfl, nd0, A, B, rfl, .inl ⟨hB, ⟨⟩, e⟩⟩⟩⟩⟩⟩
  · have k := hQ rfl
    have ok := hs.ok
    have hl1 : l.length ≤ 1000 := by have := hs.2.1; omega
    obtain ⟨r, hr⟩ := small_next hs hq1 hq2
    obtain ⟨z, hz⟩ : ∃ z, l.getLast? = some z := ⟨_, List.getLast?_eq_getLast hs.1⟩
    obtain ⟨z1, z2, z3, z4⟩ := hs.2.2 z (List.mem_of_getLast? hz)
    refine ⟨fun _ => ⟨nd0, l, q, rfl, hl1, .inr (.inr ⟨hs.1, ok, hq1, (sq hq1 hq2).mono (by decide), ⟨⟩, k _⟩)⟩, fun h0 => ⟨fun _ => ⟨nd0, l, q, rfl, hl1, .inr (.inr ⟨q.toNat, by omega, hs.1, ok, by omega, by omega, fun p => ⟨⟨⟩, k _⟩⟩)⟩, fun h1 => ⟨fun _ => ⟨nd0, l, q, rfl, hl1, .inr (.inr ⟨r, hs.1, ok, hq1, sq hq1 hq2, hr, ⟨⟩, k _⟩)⟩, fun h2 => ⟨fun _ => ⟨nd0, l, rfl, .inr ⟨hs.1, by have := hs.2.1; omega, fun p hp => ?_, ⟨⟩, k _⟩⟩, fun h3 => ⟨prI z, getI_last (by rw [List.getLast?_map, hz]; rfl), nd0, z.1, z.2, rfl, .inr ⟨z1, ?_, ?_, fun p m => ⟨⟨⟩, k _⟩⟩⟩⟩⟩⟩⟩
    · obtain ⟨a1, a2, a3, a4⟩ := hs.2.2 p hp
      exact ⟨a1, Nat.lt_of_lt_of_le (show p.1.natAbs < 10 ^ 30 by omega) (Nat.pow_le_pow_right (by decide) (by decide)), Nat.lt_of_lt_of_le (show p.2.natAbs < 10 ^ 30 by omega) (Nat.pow_le_pow_right (by decide) (by decide))⟩
    · unfold Sz; exact Nat.lt_of_lt_of_le (show z.1.natAbs < 2 ^ 100 by omega) (Nat.pow_le_pow_right (by decide) (by decide))
    · unfold Sz; exact Nat.lt_of_lt_of_le (show z.2.natAbs < 2 ^ 100 by omega) (Nat.pow_le_pow_right (by decide) (by decide))
def N_law_flags : List Str := ["_law_thing", "_law_found"]
def body_law_flags (cN : Str → Addr) : TS3 := (xSeq (xAsg (xLst (xCons (xD (xIsE errN cN errSub "NoAsking" (xView 0))) (xCons (xD (xIsE errN cN errSub "NoNumber" (xView 0))) (xCons (xD (xIsE errN cN errSub "NoText" (xView 0))) xNil)))) (xGName 1))
  (xSeq (xAsg (x2 cAdd (xView 1) (xFz (xLst (xCons (xD (xIsE errN cN errSub "NoLattice" (xView 0))) (xCons (xD (xIsE errN cN errSub "NoAsk" (xView 0))) xNil))))) (xGName 1))
  (xRet (x2 cAdd (xView 1) (xFz (xLst (xCons (xD (xNotV (xIsE errN cN errSub "UnderError" (xView 0)))) (xCons (xD (xNotV (xIsE errN cN errSub "ValueError" (xView 0)))) xNil))))))))

def flagsL (n : Str) : List Bool := [errSub n "NoAsking", errSub n "NoNumber", errSub n "NoText", errSub n "NoLattice", errSub n "NoAsk", !errSub n "UnderError", !errSub n "ValueError"]
def sp_law_flags (cN : Str → Addr) : Sp3 := fun ts Q _ => ∃ n, ts = [.d (excD (cN n))] ∧ n ∈ errN ∧ ∀ p, Q (.own p ((flagsL n).map fun b => T.d (.bool b))) ts
theorem v_law_flags (cN : Str → Addr) (ts Q E) (h : sp_law_flags cN ts Q E) : body_law_flags cN { nx := fun r => finOk ts r ∧ Q (.d .none) (finF ts r), rt := fun x r => finOk ts r ∧ Q x (finF ts r) } (start3 N_law_flags ts) := by
  obtain ⟨n, rfl, hn, k⟩ := h
  exact ⟨n, hn, rfl, n, hn, rfl, n, hn, rfl, sz 3, fun p1 => ⟨n, hn, rfl, n, hn, rfl, sz 2, fun p2 => ⟨rfl, rfl, rfl, sz 5, fun p3 => ⟨n, hn, rfl, n, hn, rfl, sz 2, fun p4 => ⟨rfl, rfl, rfl, sz 7, fun p5 => ⟨⟨⟩, k p5⟩⟩⟩⟩⟩⟩
def N_law_kind_1 : List Str := ["_law_way", "_law_asking_here", "_law_number", "_law_caught", "e", "_law_flags_here"]
def body_law_kind_1 (cN : Str → Addr) : TS3 := (xSeq (xAsg (xD (xC .none)) (xGName 3))
  (xSeq (xTry (Under cN) 4 (xDropX (xCallX (sp_law_asked_1_x cN) (xArg (xView 0) (xArg (xView 1) (xArg (xView 2) xANil))))) (xAsg (xMove 4) (xGName 3)))
  (xSeq (xIfS (xTest (x2 kIsN (xView 3) (xC .none))) (xRet (xD (xNeg (xC (.int 1))))) xNext)
  (xSeq (xAsg (xCall (sp_law_flags cN) xNoE (xArg (xView 3) xANil)) (xGName 5))
  (xRet (xD (x2 cIx (xFz (xLst (xCons (xD (xC (.int 5))) (xCons (xD (xBm cIndexB (xView 5) (xC (.bool true)))) xNil)))) (x1 cInt (x2 kEqI (xBm cCountB (xView 5) (xC (.bool true))) (xC (.int 1)))))))))))

def kindO (o : Option Str) : Int := match o with | none => -1 | some n => if n = "NoAsking" then 0 else 1
def sp_law_kind_1 : Sp3 := fun ts Q _ => ∃ way l q o, ts = [.d (.int way), .d (asD l), .d (.int q)] ∧ Asked way l q o ∧ Q (.d (.int (kindO o))) ts
theorem v_law_kind_1 (cN : Str → Addr) (ts Q E) (h : sp_law_kind_1 ts Q E) : body_law_kind_1 cN { nx := fun r => finOk ts r ∧ Q (.d .none) (finF ts r), rt := fun x r => finOk ts r ∧ Q x (finF ts r) } (start3 N_law_kind_1 ts) := by
  obtain ⟨way, l, q, o, rfl, hA, k⟩ := h
  refine ⟨nd0, way, l, q, o, rfl, hA, fun n hn => ?_, fun ho x => ?_⟩
  · have hn2 : n = "NoAsking" ∨ n = "NoNumber" := by
      rcases hA with ⟨_, _, _, _, e⟩ | ⟨_, _, _, _, _, _, e⟩ | ⟨_, _, _, _, _, e⟩ | ⟨_, _, _, _, _, e⟩ <;> rw [hn] at e <;> cases e
      · exact .inl rfl
      · exact .inr rfl
      · exact .inl rfl
    subst hn
    rcases hn2 with rfl | rfl
    · have c1 : List.countP (fun y => y == true) (flagsL "NoAsking") = 1 := by decide +kernel
      have k0 : kindO (some "NoAsking") = 0 := by decide +kernel
      rw [k0] at k
      refine ⟨⟨"NoAsking", by decide, rfl⟩, ⟨⟩, nofun, fun _ => ⟨nd0, "NoAsking", rfl, by decide, fun p => ⟨⟨⟩, rfl, flagsL "NoAsking", rfl, 0, by decide +kernel, fun m hm => by omega, sz 2, fun p2 => ⟨rfl, ⟨⟩, rfl, flagsL "NoAsking", rfl, .int 0, ?_, ⟨⟩, k⟩⟩⟩⟩
      rw [c1]
      rfl
    · have c1 : List.countP (fun y => y == true) (flagsL "NoNumber") = 1 := by decide +kernel
      have k0 : kindO (some "NoNumber") = 1 := by decide +kernel
      rw [k0] at k
      refine ⟨⟨"NoNumber", by decide, rfl⟩, ⟨⟩, nofun, fun _ => ⟨nd0, "NoNumber", rfl, by decide, fun p => ⟨⟨⟩, rfl, flagsL "NoNumber", rfl, 1, by decide +kernel, fun m hm => by rw [show m = 0 by omega]; decide +kernel, sz 2, fun p2 => ⟨rfl, ⟨⟩, rfl, flagsL "NoNumber", rfl, .int 1, ?_, ⟨⟩, k⟩⟩⟩⟩
      rw [c1]
      rfl
  · subst ho
    exact ⟨⟨⟩, fun _ => ⟨⟨⟩, k⟩, nofun⟩
end L3
namespace L3
open PySem PySem.Spec PyProof.Rows L2 TL
local macro_rules | `(tactic| wtm_at "sh") => `(tactic| conv => whnf)
def N_law_bad_right : List Str := ["_law_asking_here", "_law_number", "_law_way"]
def body_law_bad_right : TS3 := (xRet (xD (x2 kEq (xFz (xLc (xR1 (xC (.int 4))) (xGName 2) (xTest (x2 kNeI (xFz (xCall sp_law_kind_1 xNoE (xArg (xView 2) (xArg (xView 0) (xArg (xView 1) xANil))))) (xC (.int 0)))) (xMove 2) [2])) (xFz (xLst xNil)))))

def sp_law_bad_right : Sp3 := fun ts Q _ => ∃ l q, ts = [.d (asD l), .d (.int q)] ∧ BadA l ∧ l.length ≤ 1000 ∧ Q (.d (.bool true)) ts
theorem v_law_bad_right (ts Q E) (h : sp_law_bad_right ts Q E) : body_law_bad_right { nx := fun r => finOk ts r ∧ Q (.d .none) (finF ts r), rt := fun x r => finOk ts r ∧ Q x (finF ts r) } (start3 N_law_bad_right ts) := by
  obtain ⟨l, q, rfl, hb, hlen, k⟩ := h
  refine ⟨by decide, by decide, fun p => ⟨fun i acc r => r = [some (.d (asD l)), some (.d (.int q)), none] ∧ acc = [], ⟨rfl, rfl⟩, fun i x acc r hx hW => ?_, fun acc r hW => ?_⟩⟩
  · obtain ⟨rfl, rfl⟩ := hW
    obtain ⟨hi, rfl⟩ := rangeI_get hx
    have hi4 : i < 4 := hi
    refine ⟨nd0, _, l, q, some "NoAsking", rfl, .inl ⟨hlen, hb, by omega, by omega, rfl⟩, fun hc => ?_, fun _ => ⟨rfl, rfl⟩⟩
    exact absurd hc (by decide +kernel)
  · obtain ⟨rfl, rfl⟩ := hW
    exact ⟨rfl, sz 0, fun p2 => ⟨rfl, shp_nilL, shp_nilL, ⟨⟩, k⟩⟩
theorem cut_take {α : Type} {l : List α} {n : Nat} (h : n ≤ l.length) : cutL l none (some (n : Int)) = l.take n := by
  unfold cutL
  rw [show HT.sIx l.length 0 none = 0 from rfl, HT.sIx_nat, Nat.min_eq_left h, Nat.sub_zero, List.drop_zero]
theorem cut_drop {α : Type} {l : List α} {n : Nat} (h : n ≤ l.length) : cutL l (some (n : Int)) none = l.drop n := by
  unfold cutL
  rw [HT.sIx_none, HT.sIx_nat, Nat.min_eq_left h, List.take_of_length_le (by rw [List.length_drop]; exact Nat.le_refl _)]
theorem cut_mid {α : Type} {l : List α} {n : Nat} (h : n + 1 ≤ l.length) : cutL l (some (n : Int)) (some ((n : Int) + 1)) = (l.drop n).take 1 := by
  unfold cutL
  rw [show ((n : Int) + 1) = ((n + 1 : Nat) : Int) from rfl, HT.sIx_nat, HT.sIx_nat, Nat.min_eq_left h, Nat.min_eq_left (by omega), show n + 1 - n = 1 by omega]
def L1_law_2 : TS3 := (xFor (xSeqI (xFz (xLst (xCons (xD (xC (.int 1))) (xCons (xD (xC (.int 0))) (xCons (xD (x2 kSub (x2 kSub (xC (.int 0)) (xC (.int 1))) (xFz (xCall sp_law_take xNoE (xIo 1 (xArg (xC (.int 99)) xANil)))))) xNil)))))) (xGName 7) (xIfS (xOr (xNot (xTest (xFz (xCall sp_law_bad_right xNoE (xArg (xView 6) (xArg (xView 7) xANil)))))) (xNot (xTest (xFz (xCall sp_law_bad_right xNoE (xArg (xFz (xTup xNil)) (xArg (xView 7) xANil))))))) (xRet (xD (xC (.bool false)))) xNext))
def L2_law_2 : TS3 := (xFor (xSeqI (xFz (xLst (xCons (xD (xC (.int 0))) (xCons (xD (xNeg (xC (.int 1)))) (xCons (xD (x2 kSub (xC (.int 0)) (x2 cIx (x2 cIx (xView 3) (xView 4)) (xC (.int 1))))) (xCons (xD (x2 kSub (xNeg (xC (.int 2))) (xFz (xCall sp_law_far xNoE (xIo 1 xANil))))) xNil))))))) (xGName 5) (xSeq (xAsg (x2 cAdd (xFz (x2 cAdd (xFz (xSl (xView 3) xNo (xSome (xView 4)))) (xFz (xTup (xCons (xTup (xCons (xD (x2 cIx (x2 cIx (xView 3) (xView 4)) (xC (.int 0)))) (xCons (xMove 5) xNil))) xNil))))) (xFz (xSl (xView 3) (xSome (x2 kAdd (xView 4) (xC (.int 1)))) xNo))) (xGName 6))
  (xSeq L1_law_2
  (xIfS (xTest (x2 kNeI (xFz (xCall sp_law_kind_1 xNoE (xArg (xC (.int 4)) (xArg (xFz (xSl (xView 6) (xSome (xView 4)) (xSome (x2 kAdd (xView 4) (xC (.int 1)))))) (xArg (xC (.int 1)) xANil))))) (xC (.int 0)))) (xRet (xD (xC (.bool false)))) xNext))))
def L3_law_2 : TS3 := (xFor (xSeqI (xFz (xLst (xCons (xD (xC (.int 0))) (xCons (xD (xNeg (xC (.int 1)))) (xCons (xD (x2 kSub (xNeg (xC (.int 2))) (xFz (xCall sp_law_far xNoE (xIo 1 xANil))))) xNil)))))) (xGName 7) (xIfS (xTest (x2 kNe (xFz (xLc (xR1 (xC (.int 3))) (xGName 8) (xTest (x2 kNeI (xFz (xCall sp_law_kind_1 xNoE (xArg (xView 8) (xArg (xView 3) (xArg (xView 7) xANil))))) (xC (.int 1)))) (xMove 8) [8])) (xFz (xLst xNil)))) (xRet (xD (xC (.bool false)))) xNext))
def L4_law_2 : TS3 := (xFor (xR1 (xC (.int 5))) (xGName 8) (xIfS (xTest (x2 kNeI (xFz (xCall sp_law_kind_1 xNoE (xArg (xView 8) (xArg (xView 9) (xArg (x2 kAdd (xC (.int 1)) (xFz (xCall sp_law_take xNoE (xIo 1 (xArg (xC (.int 200)) xANil))))) xANil))))) (xNeg (xC (.int 1))))) (xRet (xD (xC (.bool false)))) xNext))
def L5_law_2 : TS3 := (xFor (xR1 (xC (.int 6))) (xGName 2) (xSeq (xAsg (xCall sp_law_asking_1 xNoE (xIo 1 xANil)) (xGName 3))
  (xSeq (xAsg (xCall sp_law_take xNoE (xIo 1 (xArg (x1 cLen (xView 3)) xANil))) (xGName 4))
  (xSeq L2_law_2
  (xSeq L3_law_2
  (xSeq (xAsg (xD (x1 cTup (xFz (xLc (xSeqI (xView 3)) (xGTup 2 (xGCons (xGName 13) (xGCons (xGName 5) xGNil))) xYes (xTup (xCons (xMove 13) (xCons (xD (x2 kAdd (xC (.int 1)) (x2 kMod (xView 5) (xC (.int 14))))) xNil))) [13, 5])))) (xGName 9))
  L4_law_2))))))
def N_law_2 : List Str := ["_law_script", "_law_deck_here", "_law_turn", "_law_asking_here", "_law_at", "_law_below_here", "_law_bad", "_law_number", "_law_way", "_law_small", "_law_errors", "_law_one", "_law_k", "_law_above", "_law_j"]
def body_law_2 (cN : Str → Addr) : TS3 := (xSeq (xAsg (xCall sp_law_deck xNoE (xArg (xView 0) xANil)) (xGName 1))
  (xSeq L5_law_2
  (xSeq (xAsg (xLst (xCons (xD (xC (excD (cN "NoAsking")))) (xCons (xD (xC (excD (cN "NoNumber")))) (xCons (xD (xC (excD (cN "NoText")))) (xCons (xD (xC (excD (cN "NoLattice")))) (xCons (xD (xC (excD (cN "NoAsk")))) xNil)))))) (xGName 10))
  (xFzS 10 (xRet (xD (x2 kEq (xFz (xLc (xSeqI (xView 10)) (xGName 11) xYes (xCall (sp_law_flags cN) xNoE (xArg (xView 11) xANil)) [11])) (xFz (xLc (xR1 (xC (.int 5))) (xGName 12) xYes (xLc (xR1 (xC (.int 7))) (xGName 14) xYes (xD (x2 kEq (xView 12) (xView 14))) [14]) [12])))))))))

theorem nvs_append : ∀ (l m : List T), nvs (l ++ m) = (nvs l && nvs m)
  | [], m => by simp [nvs]
  | t :: l, m => by simp only [List.cons_append, nvs, nvs_append l m, Bool.and_assoc]
abbrev st2 (a : Addr) (ns : List Int) (dk : Addr) (l : List T) (s2 s3 s4 s5 s6 s7 s8 s9 : Option T) : Rho := [some (.sc a ns), some (.own dk l), s2, s3, s4, s5, s6, s7, s8, s9, none, none, none, none, none]
theorem v_L1_law_2 {D : Ends3} {a dk : Addr} {ns : List Int} {l : List T} {n : Nat} {s2 s3 s4 s5 s7 s8 s9 : Option T} {bd : PyData} {bad : List (Int × Int)} (hbd : bd = asD bad) (hb : BadA bad) (hlen : bad.length ≤ 1000) (hd : DeckOk (n + 1) l)
    (q : ∀ l' s7, DeckOk n l' → D.nx (st2 a ns dk l' s2 s3 s4 s5 (some (.d (asD bad))) s7 s8 s9)) : L1_law_2 D (st2 a ns dk l s2 s3 s4 s5 (some (.d bd)) s7 s8 s9) := by
  subst hbd
  refine ⟨nd1, n, dk, l, _, rfl, hd, by decide, by decide, fun x1 l2 h10 h11 hd2 => ?_⟩
  refine ⟨sz 3, fun pl => ⟨rfl, fun j r => ∃ s7, r = st2 a ns dk l2 s2 s3 s4 s5 (some (.d (asD bad))) s7 s8 s9, ⟨_, rfl⟩, fun j x r hx hW => ?_, fun r hW => ?_⟩⟩
  · obtain ⟨s7, rfl⟩ := hW
    have hx' : ([1, 0, 0 - 1 - x1].map PyData.int)[j]? = some x := hx
    obtain ⟨y, hy, rfl⟩ := get_fun hx'
    exact ⟨nd0, bad, y, rfl, hb, hlen, nofun, fun _ => ⟨sz 0, nd0, [], y, rfl, .inl rfl, by decide, nofun, fun _ => ⟨_, rfl⟩⟩⟩
  · obtain ⟨s7, rfl⟩ := hW
    exact q _ _ hd2
theorem v_L2_law_2 {D : Ends3} {a dk : Addr} {ns : List Int} {l : List T} {n : Nat} {s2 s5 s6 s7 s8 s9 : Option T} {p : List (Int × Int)} {k : Nat} (hp : AskOk p) (hk : k < p.length) (hd : DeckOk (n + 8) l)
    (q : ∀ l' s5 s6 s7, DeckOk n l' → D.nx (st2 a ns dk l' s2 (some (.d (asD p))) (some (.d (.int (k : Nat)))) s5 s6 s7 s8 s9)) : L2_law_2 D (st2 a ns dk l s2 (some (.d (asD p))) (some (.d (.int (k : Nat)))) s5 s6 s7 s8 s9) := by
  have hz : p[k]? = some p[k] := List.getElem?_eq_getElem hk
  generalize p[k] = z at hz
  have hg : getI (p.map prI) (k : Int) = some (prI z) := by rw [getI_nat, List.getElem?_map, hz]; rfl
  have hzp := hp.2.2 z (List.mem_of_getElem? hz)
  have hb : 1000 < sizeLine := by decide
  have hl3 := hp.2.1
  refine ⟨_, hg, _, rfl, nd1, n + 4, dk, l, rfl, hd, fun x1 l2 h10 h11 hd2 => ?_⟩
  refine ⟨sz 4, fun pl => ⟨rfl, fun j r => ∃ l' s5 s6 s7, r = st2 a ns dk l' s2 (some (.d (asD p))) (some (.d (.int (k : Nat)))) s5 s6 s7 s8 s9 ∧ DeckOk (n + (4 - j)) l' ∧ j ≤ 4, ⟨_, _, _, _, rfl, hd2, by omega⟩, fun j x r hx hW => ?_, fun r hW => ?_⟩⟩
  · obtain ⟨l', s5, s6, s7, rfl, hd', hj⟩ := hW
    have hj4 : j < 4 := (List.getElem?_eq_some_iff.mp hx).1
    have hx' : ([0, -1, 0 - z.2, -2 - x1].map PyData.int)[j]? = some x := hx
    obtain ⟨y, hy, rfl⟩ := get_fun hx'
    have hy1 : y < 1 := by
      have := List.mem_of_getElem? hy
      simp only [List.mem_cons, List.not_mem_nil, or_false] at this
      have := hzp.1
      rcases ‹y = 0 ∨ _› with rfl | rfl | rfl | rfl <;> omega
    have c1 : cutL (p.map prI) none (some (k : Int)) = (p.take k).map prI := by rw [cut_take (by rw [List.length_map]; omega), List.map_take]
    have c2 : cutL (p.map prI) (some ((k : Int) + 1)) none = (p.drop (k + 1)).map prI := by
      rw [show ((k : Int) + 1) = ((k + 1 : Nat) : Int) from rfl, cut_drop (by rw [List.length_map]; omega), List.map_drop]
    have lt : (p.take k).length ≤ 3 := by rw [List.length_take]; omega
    have ld : (p.drop (k + 1)).length ≤ 3 := by rw [List.length_drop]; omega
    have lk : (p.take k).length = k := by rw [List.length_take]; omega
    refine ⟨_, hg, _, rfl, sz 2, sz 1, ?_, ?_, ?_⟩
    · show (cutL (p.map prI) none (some (k : Int))).length + 1 ≤ sizeLine
      rw [c1, List.length_map]; omega
    · show (cutL (p.map prI) none (some (k : Int)) ++ [prI (z.1, y)]).length + (cutL (p.map prI) (some ((k : Int) + 1)) none).length ≤ sizeLine
      rw [c1, c2, List.length_append, List.length_map, List.length_map]
      show (p.take k).length + 1 + _ ≤ _
      omega
    have hbad : BadA ((p.take k ++ [(z.1, y)]) ++ p.drop (k + 1)) := .inr ⟨(z.1, y), by simp, hy1⟩
    have e1 : n + (4 - j) = n + (4 - (j + 1)) + 1 := by omega
    rw [e1] at hd'
    refine v_L1_law_2 (bad := (p.take k ++ [(z.1, y)]) ++ p.drop (k + 1)) (by
      show PyData.tuple ((cutL (p.map prI) none (some (k : Int)) ++ [prI (z.1, y)]) ++ cutL (p.map prI) (some ((k : Int) + 1)) none) = PyData.tuple (((p.take k ++ [(z.1, y)]) ++ p.drop (k + 1)).map prI)
      rw [c1, c2, List.map_append, List.map_append]
      rfl) hbad (by rw [List.length_append, List.length_append]; show _ + 1 + _ ≤ _; omega) hd' fun l2 s7 hd2 => ?_
    have c3 : cutL (((p.take k ++ [(z.1, y)]) ++ p.drop (k + 1)).map prI) (some (k : Int)) (some ((k : Int) + 1)) = [prI (z.1, y)] := by
      rw [cut_mid (by rw [List.length_map, List.length_append, List.length_append, lk]; show k + 1 ≤ k + 1 + _; omega), ← List.map_drop, ← List.map_take, List.append_assoc, List.drop_left' lk]
      rfl
    refine ⟨nd0, 4, [(z.1, y)], 1, some "NoAsking", ?_, .inr (.inr (.inl ⟨_, _, rfl, hy1, rfl, rfl⟩)), fun hc => absurd hc (by decide +kernel), fun _ => ⟨l2, _, _, _, rfl, hd2, by omega⟩⟩
    show [T.d (.int 4), T.d (.tuple (cutL (((p.take k ++ [(z.1, y)]) ++ p.drop (k + 1)).map prI) (some (k : Int)) (some ((k : Int) + 1)))), T.d (.int 1)] = _
    rw [c3]
    rfl
  · obtain ⟨l', s5, s6, s7, rfl, hd', hj⟩ := hW
    exact q _ _ _ _ (hd'.mono (by omega))
theorem v_L3_law_2 {D : Ends3} {a dk : Addr} {ns : List Int} {l : List T} {n : Nat} {s2 s4 s5 s6 s7 s8 s9 : Option T} {p : List (Int × Int)} (hp : AskOk p) (hd : DeckOk (n + 4) l)
    (q : ∀ l' s7 s8, DeckOk n l' → D.nx (st2 a ns dk l' s2 (some (.d (asD p))) s4 s5 s6 s7 s8 s9)) : L3_law_2 D (st2 a ns dk l s2 (some (.d (asD p))) s4 s5 s6 s7 s8 s9) := by
  have hl3 := hp.2.1
  refine ⟨nd1, n, dk, l, rfl, hd, fun x1 l2 h10 h11 hd2 => ?_⟩
  refine ⟨sz 3, fun pl => ⟨rfl, fun j r => ∃ s7 s8, r = st2 a ns dk l2 s2 (some (.d (asD p))) s4 s5 s6 s7 s8 s9, ⟨_, _, rfl⟩, fun j x r hx hW => ?_, fun r hW => ?_⟩⟩
  · obtain ⟨s7, s8, rfl⟩ := hW
    have hx' : ([0, -1, -2 - x1].map PyData.int)[j]? = some x := hx
    obtain ⟨y, hy, rfl⟩ := get_fun hx'
    have hy1 : y < 1 := by
      have := List.mem_of_getElem? hy
      simp only [List.mem_cons, List.not_mem_nil, or_false] at this
      rcases this with rfl | rfl | rfl <;> omega
    refine ⟨by decide, by decide, fun p2 => ⟨fun i acc r => r = st2 a ns dk l2 s2 (some (.d (asD p))) s4 s5 s6 (some (.d (.int y))) none s9 ∧ acc = [], ⟨rfl, rfl⟩, fun i x acc r hx hW => ?_, fun acc r hW => ?_⟩⟩
    · obtain ⟨rfl, rfl⟩ := hW
      obtain ⟨hi, rfl⟩ := rangeI_get hx
      have hi3 : i < 3 := hi
      refine ⟨nd0, _, p, y, some "NoNumber", rfl, .inr (.inl ⟨by omega, hp.1, fun z hz => (hp.2.2 z hz).1, hy1, by omega, by omega, rfl⟩), fun hc => ?_, fun _ => ⟨rfl, rfl⟩⟩
      exact absurd hc (by decide +kernel)
    · obtain ⟨rfl, rfl⟩ := hW
      refine ⟨rfl, sz 0, fun p3 => ⟨rfl, shp_nilL, shp_nilL, fun hc => absurd (show (!PyData.eqv (.list []) (.list [])) = true from hc) (by decide), fun _ => ⟨_, _, rfl⟩⟩⟩
  · obtain ⟨s7, s8, rfl⟩ := hW
    exact q _ _ _ hd2
theorem v_L4_law_2 {D : Ends3} {a dk : Addr} {ns : List Int} {l : List T} {n : Nat} {s2 s3 s4 s5 s6 s7 s8 : Option T} {p : List (Int × Int)} (hp : SmallA p) (hd : DeckOk (n + 5) l)
    (q : ∀ l' s8, DeckOk n l' → D.nx (st2 a ns dk l' s2 s3 s4 s5 s6 s7 s8 (some (.d (asD p))))) : L4_law_2 D (st2 a ns dk l s2 s3 s4 s5 s6 s7 s8 (some (.d (asD p)))) := by
  refine ⟨by decide, by decide, fun i r => ∃ l' s8, r = st2 a ns dk l' s2 s3 s4 s5 s6 s7 s8 (some (.d (asD p))) ∧ DeckOk (n + (5 - i)) l' ∧ i ≤ 5, ⟨_, _, rfl, hd, by omega⟩, fun i x r hx hW => ?_, fun r hW => ?_⟩
  · obtain ⟨l', s8, rfl, hd', hi⟩ := hW
    obtain ⟨hi5, rfl⟩ := rangeI_get hx
    have hi5' : i < 5 := hi5
    have e1 : n + (5 - i) = n + (5 - (i + 1)) + 1 := by omega
    rw [e1] at hd'
    refine ⟨nd1, _, dk, l', _, rfl, hd', by decide, by decide, fun x1 l2 h10 h11 hd2 => ⟨nd0, _, p, 1 + x1, none, rfl, .inr (.inr (.inr ⟨hp, by omega, by omega, by omega, by omega, rfl⟩)), fun hc => absurd hc (by decide +kernel), fun _ => ⟨l2, _, rfl, hd2, by omega⟩⟩⟩
  · obtain ⟨l', s8, rfl, hd', hi⟩ := hW
    exact q _ _ (hd'.mono (by omega))
theorem v_law_2 (cN : Str → Addr) (ts Q E) (h : spLaw ts Q E) : body_law_2 cN { nx := fun r => finOk ts r ∧ Q (.d .none) (finF ts r), rt := fun x r => finOk ts r ∧ Q x (finF ts r) } (start3 N_law_2 ts) := by
  obtain ⟨a, ns, rfl, hl, q⟩ := h
  have hb : 1000 < sizeLine := by decide
  refine ⟨nd0, a, ns, rfl, hl, fun dk l0 hd0 => ?_⟩
  refine ⟨by decide, by decide, fun i r => ∃ l s2 s3 s4 s5 s6 s7 s8 s9, r = st2 a ns dk l s2 s3 s4 s5 s6 s7 s8 s9 ∧ i ≤ 6 ∧ DeckOk (10000 + (6 - i) * 1000) l, ⟨l0, _, _, _, _, _, _, _, _, rfl, by decide, hd0.mono (by decide)⟩, fun i x r hx hW => ?_, fun r hW => ?_⟩
  · obtain ⟨l, s2, s3, s4, s5, s6, s7, s8, s9, rfl, hi, hd⟩ := hW
    obtain ⟨hi6, rfl⟩ := rangeI_get hx
    have hi6' : i < 6 := hi6
    refine ⟨nd1, 10000 + (5 - i) * 1000 + 900, dk, l, rfl, hd.mono (by omega), fun p l1 hp hd1 => ?_⟩
    have hl3 := hp.2.1
    have hl0 : 0 < p.length := List.length_pos_iff.mpr hp.1
    refine ⟨nd1, 10000 + (5 - i) * 1000 + 800, dk, l1, _, rfl, hd1.mono (by omega), ?_, ?_, fun x1 l2 h10 h11 hd2 => ?_⟩
    · show (0 : Int) < ((p.map prI).length : Int)
      rw [List.length_map]; omega
    · show ((p.map prI).length : Int) < 2 ^ 62
      rw [List.length_map]; omega
    obtain ⟨k, rfl, hk⟩ : ∃ k : Nat, x1 = (k : Int) ∧ k < p.length := by
      have h12 : x1 < ((p.map prI).length : Int) := h11
      rw [List.length_map] at h12
      exact ⟨x1.toNat, by omega, by omega⟩
    refine v_L2_law_2 (n := 10000 + (5 - i) * 1000 + 700) hp hk (hd2.mono (by omega)) fun l3 s5 s6 s7 hd3 => ?_
    refine v_L3_law_2 (n := 10000 + (5 - i) * 1000 + 600) hp (hd3.mono (by omega)) fun l4 s7 s8 hd4 => ?_
    have hs : SmallA (p.map fun z => (z.1, 1 + z.2 % 14)) := ⟨by simpa using hp.1, by rw [List.length_map]; exact hl3, fun y hy => by
      obtain ⟨z, hz, rfl⟩ := List.mem_map.mp hy
      obtain ⟨h1, h2, h3, h4⟩ := hp.2.2 z hz
      have m0 := Int.emod_nonneg z.2 (show (14 : Int) ≠ 0 by decide)
      have m1 := Int.emod_lt_of_pos z.2 (show (0 : Int) < 14 by decide)
      exact ⟨show 0 < 1 + z.2 % 14 by omega, show 1 + z.2 % 14 ≤ 14 by omega, by show _ ≤ z.1; omega, by show z.1 ≤ _; omega⟩⟩
    refine lc_gen ((p.map fun z => (z.1, 1 + z.2 % 14)).map prI) (by simp) (by rw [List.length_map]; omega) (fun r0 h0 j x y hx hy R S kk => ?_) fun r0 h0 p2 => ⟨nvs_d _, ?_⟩
    · simp only [wp, puts, List.set_cons_succ, List.set_cons_zero] at h0; subst h0
      obtain ⟨z, hz, rfl⟩ := get_fun hx
      rw [List.map_map] at hy
      obtain rfl := get_map2 hy hz
      exact ⟨rfl, fun _ => ⟨show (0 : Int) < 14 by decide, sz 2, kk _ rfl⟩, nofun⟩
    simp only [wp, puts, List.set_cons_succ, List.set_cons_zero] at h0; subst h0
    rw [fz_outs]
    exact v_L4_law_2 (n := 10000 + (5 - i) * 1000) hs (hd4.mono (by omega)) fun l5 s8 hd5 => ⟨l5, _, _, _, _, _, _, _, _, rfl, by omega, hd5.mono (by omega)⟩
  · obtain ⟨l, s2, s3, s4, s5, s6, s7, s8, s9, rfl, hi, hd⟩ := hW
    refine ⟨sz 5, fun pe => ⟨rfl, fun p1 => ⟨fun i acc r => r = [some (.sc a ns), some (.own dk l), s2, s3, s4, s5, s6, s7, s8, s9, some (.d (.list (errN.map fun n => excD (cN n)))), none, none, none, none] ∧ acc.length = i ∧ nvs acc = true ∧ fzs acc = (errN.take i).map (fun n => PyData.list ((flagsL n).map PyData.bool)), ⟨rfl, rfl, rfl, rfl⟩, fun i x acc r hx hW => ?_, fun acc r hW => ?_⟩⟩⟩
    · obtain ⟨rfl, hal, hnv, hfz⟩ := hW
      have hx' : (errN.map fun n => excD (cN n))[i]? = some x := hx
      obtain ⟨n, hn, rfl⟩ := get_fun hx'
      have hi5 : i < 5 := (List.getElem?_eq_some_iff.mp hn).1
      refine ⟨fun _ => ⟨nd0, n, rfl, List.mem_of_getElem? hn, fun p2 => ⟨by omega, rfl, by rw [List.length_append, hal]; rfl, ?_, ?_⟩⟩, nofun⟩
      · rw [nvs_append, hnv]
        show (true && (nvs ((flagsL n).map fun b => T.d (.bool b)) && true)) = true
        rw [nvs_map (fun b => PyData.bool b)]
        rfl
      · rw [fzs_append, hfz, take_succ hn, List.map_append]
        show _ ++ [fz (T.own p2 ((flagsL n).map fun b => T.d (.bool b)))] = _
        rw [fz_own]
        rfl
    obtain ⟨rfl, hal, hnv, hfz⟩ := hW
    refine ⟨hnv, by decide, by decide, fun p3 => ⟨fun i acc r => r = [some (.sc a ns), some (.own dk l), s2, s3, s4, s5, s6, s7, s8, s9, some (.d (.list (errN.map fun n => excD (cN n)))), none, none, none, none] ∧ acc.length = i ∧ nvs acc = true ∧ fzs acc = ((List.range 5).take i).map (fun k => PyData.list ((List.range 7).map fun j => PyData.bool (PyData.eqv (.int (0 + (k : Nat))) (.int (0 + (j : Nat)))))), ⟨rfl, rfl, rfl, rfl⟩, fun i x acc r hx hW => ?_, fun acc2 r hW => ?_⟩⟩
    · obtain ⟨rfl, hal2, hnv2, hfz2⟩ := hW
      obtain ⟨hi, rfl⟩ := rangeI_get hx
      have hi5 : i < 5 := hi
      have hr : (List.range 5)[i]? = some i := List.getElem?_range hi5
      refine ⟨fun _ => ⟨by decide, by decide, lc_gen ((List.range 7).map fun j => PyData.bool (PyData.eqv (.int (0 + (i : Nat))) (.int (0 + (j : Nat))))) (by rw [List.length_map, List.length_range, rangeI_len]; rfl) (by rw [rangeI_len]; decide) (fun r0 h0 j x y hx hy R S kk => ?_) fun r0 h0 p4 => ?_⟩, nofun⟩
      · simp only [wp, puts, List.set_cons_succ, List.set_cons_zero] at h0; subst h0
        obtain ⟨hj, rfl⟩ := rangeI_get hx
        have hj7 : j < 7 := hj
        obtain rfl := get_map2 hy (List.getElem?_range hj7)
        exact ⟨fun _ => ⟨rfl, rfl, kk _ rfl⟩, nofun⟩
      simp only [wp, puts, List.set_cons_succ, List.set_cons_zero] at h0; subst h0
      refine ⟨by rw [hal2]; exact Nat.lt_trans hi5 (by decide), rfl, by rw [List.length_append, hal2]; rfl, ?_, ?_⟩
      · rw [nvs_append, hnv2]
        show (true && (nvs (List.map T.d _) && true)) = true
        rw [nvs_d]
        rfl
      · rw [fzs_append, hfz2, take_succ hr, List.map_append]
        show _ ++ [fz (T.own p4 (List.map T.d _))] = _
        rw [fz_outs]
        rfl
    obtain ⟨rfl, hal2, hnv2, hfz2⟩ := hW
    refine ⟨hnv2, ?_⟩
    have eL : fz (T.own p1 acc) = .list (errN.map fun n => PyData.list ((flagsL n).map PyData.bool)) := by
      show PyData.list (fzs acc) = _
      rw [hfz]
      rfl
    have eR : fz (T.own p3 acc2) = .list ((List.range 5).map fun k => PyData.list ((List.range 7).map fun j => PyData.bool (PyData.eqv (.int (0 + (k : Nat))) (.int (0 + (j : Nat)))))) := by
      show PyData.list (fzs acc2) = _
      rw [hfz2]
      rfl
    rw [eL, eR]
    refine ⟨by decide +kernel, by decide +kernel, ⟨⟩, ?_⟩
    have ev : PyData.eqv (.list (errN.map fun n => PyData.list ((flagsL n).map PyData.bool))) (.list ((List.range 5).map fun k => PyData.list ((List.range 7).map fun j => PyData.bool (PyData.eqv (.int (0 + (k : Nat))) (.int (0 + (j : Nat))))))) = true := by decide +kernel
    rw [ev]
    exact q _
end L3
namespace L3
/-! ## determinants, as the law reckons them -/
def sumR : Nat → (Nat → Int) → Int
  | 0, _ => 0
  | m + 1, f => sumR m f + f m
theorem sumR_congr {f g : Nat → Int} : ∀ {m : Nat}, (∀ k, k < m → f k = g k) → sumR m f = sumR m g
  | 0, _ => rfl
  | m + 1, h => by
    show sumR m f + f m = sumR m g + g m
    rw [sumR_congr (fun k hk => h k (by omega)), h m (by omega)]
theorem sumR_lin {f g : Nat → Int} (c : Int) : ∀ m, sumR m (fun k => f k + c * g k) = sumR m f + c * sumR m g
  | 0 => by simp [sumR]
  | m + 1 => by
    show sumR m (fun k => f k + c * g k) + (f m + c * g m) = sumR m f + f m + c * (sumR m g + g m)
    rw [sumR_lin c m]; grind
theorem sumR_zero {f : Nat → Int} : ∀ {m : Nat}, (∀ k, k < m → f k = 0) → sumR m f = 0
  | 0, _ => rfl
  | m + 1, h => by
    show sumR m f + f m = 0
    rw [sumR_zero (fun k hk => h k (by omega)), h m (by omega)]; rfl
def sg (k : Nat) : Int := if k % 2 = 0 then 1 else -1
abbrev Mat := List (List Int)
def minor (k : Nat) (rows : Mat) : Mat := rows.map fun r => r.eraseIdx k
def detN : Nat → Mat → Int
  | 0, _ => 1
  | _ + 1, [] => 1
  | n + 1, r :: rest => sumR (n + 1) fun k => r.getD k 0 * sg k * detN n (minor k rest)
/-- so many rows of so many numbers -/
def Sq (m n : Nat) (rows : Mat) : Prop := rows.length = m ∧ ∀ r ∈ rows, r.length = n
theorem Sq.tail {m n : Nat} {r : List Int} {rows : Mat} (h : Sq (m + 1) n (r :: rows)) : r.length = n ∧ Sq m n rows :=
  ⟨h.2 r (by simp), by simpa using h.1, fun x hx => h.2 x (List.mem_cons_of_mem _ hx)⟩
theorem Sq.minor {m n k : Nat} {rows : Mat} (h : Sq m (n + 1) rows) (hk : k < n + 1) : Sq m n (minor k rows) :=
  ⟨by unfold L3.minor; rw [List.length_map]; exact h.1, fun r hr => by
    obtain ⟨x, hx, rfl⟩ := List.mem_map.mp hr
    rw [List.length_eraseIdx, h.2 x hx, if_pos hk]; rfl⟩
theorem Sq.set {m n i : Nat} {rows : Mat} {x : List Int} (h : Sq m n rows) (hx : x.length = n) : Sq m n (rows.set i x) :=
  ⟨by rw [List.length_set]; exact h.1, fun r hr => by
    rcases List.mem_or_eq_of_mem_set hr with h1 | rfl
    · exact h.2 r h1
    · exact hx⟩
/-- x + m y -/
def vAdd (x : List Int) (m : Int) (y : List Int) : List Int := List.zipWith (fun a b => a + m * b) x y
theorem vAdd_len {x y : List Int} {m : Int} {n : Nat} (hx : x.length = n) (hy : y.length = n) : (vAdd x m y).length = n := by
  unfold vAdd; rw [List.length_zipWith]; omega
theorem zipWith_erase (f : Int → Int → Int) : ∀ (x y : List Int) (k : Nat), x.length = y.length → (List.zipWith f x y).eraseIdx k = List.zipWith f (x.eraseIdx k) (y.eraseIdx k)
  | [], [], _, _ => by simp
  | a :: x, b :: y, 0, h => by simp
  | a :: x, b :: y, k + 1, h => by
    simp only [List.zipWith_cons_cons, List.eraseIdx_cons_succ, zipWith_erase f x y k (by simpa using h)]
theorem vAdd_get {x y : List Int} {m : Int} {k : Nat} (hx : k < x.length) (hy : k < y.length) : (vAdd x m y).getD k 0 = x.getD k 0 + m * y.getD k 0 := by
  unfold vAdd
  rw [List.getD_eq_getElem?_getD, List.getD_eq_getElem?_getD, List.getD_eq_getElem?_getD, List.getElem?_zipWith, List.getElem?_eq_getElem hx, List.getElem?_eq_getElem hy]
  rfl
theorem minor_set {rows : Mat} {i k : Nat} {x : List Int} : minor k (rows.set i x) = (minor k rows).set i (x.eraseIdx k) := by
  unfold minor
  rw [List.map_set]
theorem det_lin : ∀ (n : Nat) (rows : Mat) (i : Nat) (x y : List Int) (m : Int), Sq n n rows → i < n → x.length = n → y.length = n → detN n (rows.set i (vAdd x m y)) = detN n (rows.set i x) + m * detN n (rows.set i y)
  | 0, _, i, _, _, _, _, h, _, _ => by omega
  | n + 1, [], _, _, _, _, h, _, _, _ => by have := h.1; simp at this
  | n + 1, r :: rest, 0, x, y, m, h, _, hx, hy => by
    show sumR (n + 1) (fun k => (vAdd x m y).getD k 0 * sg k * detN n (minor k rest)) = sumR (n + 1) (fun k => x.getD k 0 * sg k * detN n (minor k rest)) + m * sumR (n + 1) (fun k => y.getD k 0 * sg k * detN n (minor k rest))
    rw [← sumR_lin]
    refine sumR_congr fun k hk => ?_
    rw [vAdd_get (by omega) (by omega)]
    grind
  | n + 1, r :: rest, i + 1, x, y, m, h, hi, hx, hy => by
    obtain ⟨hr, ht⟩ := h.tail
    show sumR (n + 1) (fun k => r.getD k 0 * sg k * detN n (minor k (rest.set i (vAdd x m y)))) = sumR (n + 1) (fun k => r.getD k 0 * sg k * detN n (minor k (rest.set i x))) + m * sumR (n + 1) (fun k => r.getD k 0 * sg k * detN n (minor k (rest.set i y)))
    rw [← sumR_lin]
    refine sumR_congr fun k hk => ?_
    have e : minor k (rest.set i (vAdd x m y)) = (minor k rest).set i (vAdd (x.eraseIdx k) m (y.eraseIdx k)) := by
      rw [minor_set]
      unfold vAdd
      rw [zipWith_erase _ _ _ _ (by omega)]
    rw [e, det_lin n (minor k rest) i _ _ m (ht.minor hk) (by omega) (by rw [List.length_eraseIdx, hx, if_pos hk]; rfl) (by rw [List.length_eraseIdx, hy, if_pos hk]; rfl), minor_set, minor_set]
    grind
theorem len2 {r : List Int} (h : r.length = 2) : ∃ a b, r = [a, b] := by
  match r, h with | [a, b], _ => exact ⟨a, b, rfl⟩
theorem len3 {r : List Int} (h : r.length = 3) : ∃ a b c, r = [a, b, c] := by
  match r, h with | [a, b, c], _ => exact ⟨a, b, c, rfl⟩
theorem len4 {r : List Int} (h : r.length = 4) : ∃ a b c d, r = [a, b, c, d] := by
  match r, h with | [a, b, c, d], _ => exact ⟨a, b, c, d, rfl⟩
theorem alt01 : ∀ (n : Nat) (r : List Int) (rest : Mat), n ≤ 4 → Sq n n (r :: r :: rest) → detN n (r :: r :: rest) = 0
  | 0, r, rest, _, h => by have := h.1; simp at this
  | 1, r, rest, _, h => by have := h.1; simp at this
  | 2, r, rest, _, h => by
    obtain ⟨a, b, rfl⟩ := len2 (h.2 r (by simp))
    have hl : rest = [] := by have := h.1; simpa using this
    subst hl
    simp [detN, sumR, minor, sg]
    grind
  | 3, r, rest, _, h => by
    obtain ⟨a, b, c, rfl⟩ := len3 (h.2 r (by simp))
    have hl : rest.length = 1 := by have := h.1; simpa using this
    match rest, hl with
    | [x], _ =>
      obtain ⟨d, e, f, rfl⟩ := len3 (h.2 x (by simp))
      simp [detN, sumR, minor, sg]
      grind
  | 4, r, rest, _, h => by
    obtain ⟨a, b, c, d, rfl⟩ := len4 (h.2 r (by simp))
    have hl : rest.length = 2 := by have := h.1; simpa using this
    match rest, hl with
    | [x, y], _ =>
      obtain ⟨e, f, g, i, rfl⟩ := len4 (h.2 x (by simp))
      obtain ⟨j, k, l, m, rfl⟩ := len4 (h.2 y (by simp))
      simp [detN, sumR, minor, sg]
      grind
  | n + 5, _, _, h, _ => by omega
/-- from linear and alternating in two rows: their exchange turns the sign -/
theorem swap_of {n : Nat} {i j : Nat} (hij : i ≠ j) (hi : i < n) (hj : j < n) (alt : ∀ (rows : Mat) (x : List Int), Sq n n rows → rows[i]? = some x → rows[j]? = some x → detN n rows = 0)
    {rows : Mat} {x y : List Int} (h : Sq n n rows) (hx : x.length = n) (hy : y.length = n) : detN n ((rows.set i x).set j y) = - detN n ((rows.set i y).set j x) := by
  have s1 : ∀ {a b : List Int}, a.length = n → b.length = n → Sq n n ((rows.set i a).set j b) := fun {a b} ha hb => (h.set ha).set hb
  have hl := h.1
  have g : ∀ (a : List Int), ((rows.set i a).set j a)[i]? = some a ∧ ((rows.set i a).set j a)[j]? = some a := fun a => ⟨by
    rw [List.getElem?_set_ne (Ne.symm hij), List.getElem?_set_self (by omega)], by
    rw [List.getElem?_set_self (by rw [List.length_set]; omega)]⟩
  have z : ∀ a : List Int, a.length = n → detN n ((rows.set i a).set j a) = 0 := fun a ha => alt _ a (s1 ha ha) (g a).1 (g a).2
  have hv : (vAdd x 1 y).length = n := vAdd_len hx hy
  have e0 := z (vAdd x 1 y) hv
  rw [det_lin n (rows.set i (vAdd x 1 y)) j x y 1 (h.set hv) hj hx hy] at e0
  have c : ∀ (a b : List Int), (rows.set i a).set j b = (rows.set j b).set i a := fun a b => List.set_comm _ _ hij
  rw [c, c, det_lin n (rows.set j x) i x y 1 (h.set hx) hi hx hy, det_lin n (rows.set j y) i x y 1 (h.set hy) hi hx hy, ← c, ← c, ← c, ← c, z x hx, z y hy] at e0
  omega
theorem set_same {rows : Mat} {i : Nat} {x : List Int} (h : rows[i]? = some x) : rows.set i x = rows := by
  obtain ⟨hlt, e⟩ := List.getElem?_eq_some_iff.mp h
  rw [← e]
  exact List.set_getElem_self hlt
theorem det_alt : ∀ (n : Nat) (i j : Nat) (rows : Mat) (x : List Int), n ≤ 4 → Sq n n rows → i < j → rows[i]? = some x → rows[j]? = some x → detN n rows = 0
  | 0, i, j, rows, x, _, h, hij, hi, hj => by
    have := h.1
    have := (List.getElem?_eq_some_iff.mp hj).1
    omega
  | n + 1, i, j, [], x, _, h, _, hi, _ => by simp at hi
  | n + 1, i + 1, j, r :: rest, x, h4, h, hij, hi, hj => by
    obtain ⟨hr, ht⟩ := h.tail
    obtain ⟨j, rfl⟩ : ∃ j', j = j' + 1 := ⟨j - 1, by omega⟩
    show sumR (n + 1) (fun k => r.getD k 0 * sg k * detN n (minor k rest)) = 0
    refine sumR_zero fun k hk => ?_
    have e : ∀ m, (r :: rest)[m + 1]? = some x → (minor k rest)[m]? = some (x.eraseIdx k) := fun m hm => by
      have hm' : rest[m]? = some x := by simpa using hm
      unfold minor
      rw [List.getElem?_map, hm']
      rfl
    rw [det_alt n i j (minor k rest) (x.eraseIdx k) (by omega) (ht.minor hk) (by omega) (e i hi) (e j hj), Int.mul_zero]
  | n + 1, 0, j, r :: rest, x, h4, h, hij, hi, hj => by
    have hr : r = x := by simpa using hi
    subst hr
    match rest, j, hij, hj, h with
    | [], j, hij, hj, h =>
      have := (List.getElem?_eq_some_iff.mp hj).1
      simp at this
      omega
    | s :: rest, 1, _, hj, h =>
      have : s = r := by simpa using hj
      subst this
      exact alt01 _ _ _ h4 h
    | s :: rest, j + 2, _, hj, h =>
      have hs : s.length = n + 1 := h.2 s (by simp)
      have hr : r.length = n + 1 := h.2 r (by simp)
      have hjl : j + 2 < (r :: s :: rest).length := (List.getElem?_eq_some_iff.mp hj).1
      have hl := h.1
      have sw := swap_of (n := n + 1) (i := 1) (j := j + 2) (by omega) (by omega) (by omega) (fun rows x hq h1 h2 => by
        match rows, hq, h1, h2 with
        | [], hq, h1, h2 => simp at h1
        | r0 :: rows, hq, h1, h2 =>
          obtain ⟨hr0, ht⟩ := hq.tail
          show sumR (n + 1) (fun k => r0.getD k 0 * sg k * detN n (minor k rows)) = 0
          refine sumR_zero fun k hk => ?_
          have e : ∀ m, (r0 :: rows)[m + 1]? = some x → (minor k rows)[m]? = some (x.eraseIdx k) := fun m hm => by
            have hm' : rows[m]? = some x := by simpa using hm
            unfold minor
            rw [List.getElem?_map, hm']
            rfl
          rw [det_alt n 0 (j + 1) (minor k rows) (x.eraseIdx k) (by omega) (ht.minor hk) (by omega) (e 0 h1) (e (j + 1) h2), Int.mul_zero]) h (x := s) (y := r) hs hr
      have e1 : ((r :: s :: rest).set 1 s).set (j + 2) r = r :: s :: rest := by
        rw [show (r :: s :: rest).set 1 s = r :: s :: rest from rfl]
        exact set_same hj
      have e2 : ((r :: s :: rest).set 1 r).set (j + 2) s = r :: r :: rest.set j s := rfl
      rw [e1, e2, alt01 (n + 1) r (rest.set j s) h4 (by
        have q := (h.set (i := 1) hr).set (i := j + 2) hs
        rw [e2] at q
        exact q)] at sw
      omega
theorem det_alt' {n i j : Nat} {rows : Mat} {x : List Int} (h4 : n ≤ 4) (h : Sq n n rows) (hij : i ≠ j) (hi : rows[i]? = some x) (hj : rows[j]? = some x) : detN n rows = 0 := by
  rcases Nat.lt_or_gt_of_ne hij with c | c
  · exact det_alt n i j rows x h4 h c hi hj
  · exact det_alt n j i rows x h4 h c hj hi
/-- two rows exchanged -/
theorem det_swap {n i j : Nat} {rows : Mat} {x y : List Int} (h4 : n ≤ 4) (h : Sq n n rows) (hij : i ≠ j) (hi : rows[i]? = some x) (hj : rows[j]? = some y) : detN n ((rows.set i y).set j x) = - detN n rows := by
  have hil := (List.getElem?_eq_some_iff.mp hi).1
  have hjl := (List.getElem?_eq_some_iff.mp hj).1
  have hl := h.1
  have e := swap_of hij (show i < n by omega) (show j < n by omega) (fun rows x hq h1 h2 => det_alt' h4 hq hij h1 h2) h (x := y) (y := x) (h.2 y (List.mem_of_getElem? hj)) (h.2 x (List.mem_of_getElem? hi))
  rw [e, set_same hi, set_same hj]
/-- so many times another row put to one -/
theorem det_add {n i j : Nat} {rows : Mat} {x y : List Int} (m : Int) (h4 : n ≤ 4) (h : Sq n n rows) (hij : i ≠ j) (hi : rows[i]? = some x) (hj : rows[j]? = some y) : detN n (rows.set i (vAdd x m y)) = detN n rows := by
  have hil := (List.getElem?_eq_some_iff.mp hi).1
  have hl := h.1
  have hx := h.2 x (List.mem_of_getElem? hi)
  have hy := h.2 y (List.mem_of_getElem? hj)
  rw [det_lin n rows i x y m h (by omega) hx hy, set_same hi, det_alt' (x := y) h4 (h.set hy) hij (by rw [List.getElem?_set_self hil]) (by rw [List.getElem?_set_ne hij]; exact hj), Int.mul_zero, Int.add_zero]
/-- a row so many times -/
theorem det_scale {n i : Nat} {rows : Mat} {x : List Int} (m : Int) (h : Sq n n rows) (hi : i < n) (hx : x.length = n) : detN n (rows.set i (x.map (m * ·))) = m * detN n (rows.set i x) := by
  have e : x.map (m * ·) = vAdd x (m - 1) x := by
    unfold vAdd
    rw [List.zipWith_self]
    exact List.map_congr_left fun a _ => by grind
  rw [e, det_lin n rows i x x (m - 1) h hi hx hx]
  grind
/-! ### what rows span; rows of steps -/
inductive Span (n : Nat) (rows : Mat) : List Int → Prop
  | zero : Span n rows (List.replicate n 0)
  | add {x r : List Int} (m : Int) : Span n rows x → r ∈ rows → Span n rows (vAdd x m r)
theorem Span.len {m n : Nat} {rows : Mat} (h : Sq m n rows) {x : List Int} (s : Span n rows x) : x.length = n := by
  induction s with
  | zero => simp
  | add k _ hr ih => exact vAdd_len ih (h.2 _ hr)
theorem vAdd_zero {n : Nat} {x : List Int} {m : Int} (h : x.length = n) : vAdd x m (List.replicate n 0) = x := by
  unfold vAdd
  refine List.ext_getElem (by rw [List.length_zipWith, List.length_replicate]; omega) fun i h1 h2 => ?_
  rw [List.getElem_zipWith, List.getElem_replicate]
  omega
theorem zero_vAdd {n : Nat} {x : List Int} (h : x.length = n) : vAdd (List.replicate n 0) 1 x = x := by
  unfold vAdd
  refine List.ext_getElem (by rw [List.length_zipWith, List.length_replicate]; omega) fun i h1 h2 => ?_
  rw [List.getElem_zipWith, List.getElem_replicate]
  omega
theorem vAdd_assoc {n : Nat} {x y z : List Int} {k m : Int} (hx : x.length = n) (hy : y.length = n) (hz : z.length = n) : vAdd x k (vAdd y m z) = vAdd (vAdd x k y) (k * m) z := by
  unfold vAdd
  refine List.ext_getElem (by simp only [List.length_zipWith]; omega) fun i h1 h2 => ?_
  simp only [List.getElem_zipWith]
  grind
theorem Span.of_mem {m n : Nat} {rows : Mat} (h : Sq m n rows) {r : List Int} (hr : r ∈ rows) : Span n rows r := by
  rw [← zero_vAdd (h.2 r hr)]
  exact .add 1 .zero hr
theorem Span.vadd {m n : Nat} {rows : Mat} (h : Sq m n rows) {x y : List Int} (sx : Span n rows x) (k : Int) (sy : Span n rows y) : Span n rows (vAdd x k y) := by
  induction sy with
  | zero => rw [vAdd_zero (sx.len h)]; exact sx
  | add c sy hr ih =>
    rw [vAdd_assoc (sx.len h) (sy.len h) (h.2 _ hr)]
    exact .add _ ih hr
theorem Span.trans {m m' n : Nat} {rows rows' : Mat} (h : Sq m n rows) (h' : Sq m' n rows') (hr : ∀ r ∈ rows', Span n rows r) {x : List Int} (s : Span n rows' x) : Span n rows x := by
  induction s with
  | zero => exact .zero
  | add k _ hm ih => exact ih.vadd h k (hr _ hm)
/-- by determinants: what is spanned is told by whole numbers -/
theorem Span.dvd {n : Nat} {rows : Mat} (h4 : n ≤ 4) (h : Sq n n rows) {x : List Int} (s : Span n rows x) {i : Nat} (hi : i < n) : detN n rows ∣ detN n (rows.set i x) := by
  have hl := h.1
  induction s with
  | zero =>
    have e : (List.replicate n (0 : Int)) = (List.replicate n (0 : Int)).map (0 * ·) := by simp
    rw [e, det_scale 0 h hi (by simp), Int.zero_mul]
    exact Int.dvd_zero _
  | @add x r k sx hr ih =>
    rw [det_lin n rows i x r k h hi (sx.len h) (h.2 r hr)]
    refine Int.dvd_add ih (Int.dvd_mul_of_dvd_right ?_)
    obtain ⟨j, hj⟩ := List.getElem?_of_mem hr
    by_cases e : i = j
    · subst e
      rw [set_same hj]
      exact Int.dvd_refl _
    · rw [det_alt' (x := r) h4 (h.set (h.2 r hr)) e (by rw [List.getElem?_set_self (by omega)]) (by rw [List.getElem?_set_ne e]; exact hj)]
      exact Int.dvd_zero _
theorem get_erase (r : List Int) (k c : Nat) : (r.eraseIdx k).getD c 0 = if c < k then r.getD c 0 else r.getD (c + 1) 0 := by
  rw [List.getD_eq_getElem?_getD, List.getElem?_eraseIdx]
  split <;> rw [List.getD_eq_getElem?_getD]
theorem det_col0 : ∀ (n : Nat) (rows : Mat), 0 < n → Sq n n rows → (∀ r ∈ rows, r.getD 0 0 = 0) → detN n rows = 0
  | 0, _, h, _, _ => by omega
  | n + 1, [], _, h, _ => by have := h.1; simp at this
  | n + 1, r :: rest, _, h, hz => by
    obtain ⟨hr, ht⟩ := h.tail
    show sumR (n + 1) (fun k => r.getD k 0 * sg k * detN n (minor k rest)) = 0
    refine sumR_zero fun k hk => ?_
    by_cases h0 : k = 0
    · subst h0
      rw [hz r (by simp), Int.zero_mul, Int.zero_mul]
    · rw [det_col0 n (minor k rest) (by omega) (ht.minor hk) (fun x hx => by
        obtain ⟨y, hy, rfl⟩ := List.mem_map.mp hx
        rw [get_erase, if_pos (by omega)]
        exact hz y (List.mem_cons_of_mem _ hy)), Int.mul_zero]
/-- noughts below the diagonal -/
def Tri (o : Nat) (rows : Mat) : Prop := ∀ (i : Nat) (r : List Int), rows[i]? = some r → ∀ c, c < o + i → r.getD c 0 = 0
/-- the product of the diagonal, from the place o on -/
def prodD : Nat → Mat → Int
  | _, [] => 1
  | o, r :: rows => r.getD o 0 * prodD (o + 1) rows
theorem prodD_minor : ∀ (o : Nat) (rows : Mat), prodD o (minor 0 rows) = prodD (o + 1) rows
  | _, [] => rfl
  | o, r :: rows => by
    show (r.eraseIdx 0).getD o 0 * prodD (o + 1) (minor 0 rows) = r.getD (o + 1) 0 * prodD (o + 1 + 1) rows
    rw [prodD_minor (o + 1) rows, get_erase, if_neg (by omega)]
theorem det_tri : ∀ (n : Nat) (rows : Mat), Sq n n rows → Tri 0 rows → detN n rows = prodD 0 rows
  | 0, [], _, _ => rfl
  | 0, r :: rows, h, _ => by have := h.1; simp at this
  | n + 1, [], h, _ => by have := h.1; simp at this
  | n + 1, r :: rest, h, ht => by
    obtain ⟨hr, hs⟩ := h.tail
    have key : ∀ m, m ≤ n → sumR (m + 1) (fun k => r.getD k 0 * sg k * detN n (minor k rest)) = r.getD 0 0 * detN n (minor 0 rest) := by
      intro m
      induction m with
      | zero =>
        intro _
        show (0 : Int) + r.getD 0 0 * sg 0 * detN n (minor 0 rest) = _
        rw [show sg 0 = 1 from rfl]
        grind
      | succ m ih =>
        intro hm
        show sumR (m + 1) _ + r.getD (m + 1) 0 * sg (m + 1) * detN n (minor (m + 1) rest) = _
        rw [ih (by omega), det_col0 n (minor (m + 1) rest) (by omega) (hs.minor (by omega)) (fun x hx => by
          obtain ⟨y, hy, rfl⟩ := List.mem_map.mp hx
          rw [get_erase, if_pos (by omega)]
          obtain ⟨i, hi⟩ := List.getElem?_of_mem hy
          exact ht (i + 1) y (by simpa using hi) 0 (by omega)), Int.mul_zero, Int.add_zero]
    show sumR (n + 1) (fun k => r.getD k 0 * sg k * detN n (minor k rest)) = r.getD 0 0 * prodD 1 rest
    rw [key n (Nat.le_refl _), det_tri n (minor 0 rest) (hs.minor (by omega)) (fun i x hx c hc => by
      unfold minor at hx
      rw [List.getElem?_map] at hx
      cases e : rest[i]? with
      | none => rw [e] at hx; cases hx
      | some y =>
        rw [e] at hx
        cases hx
        rw [get_erase, if_neg (by omega)]
        exact ht (i + 1) y (by simpa using e) (c + 1) (by omega)), prodD_minor]
end L3
namespace L3
open PySem PySem.Spec PyProof.Rows L2
local macro_rules | `(tactic| wtm_at "sh") => `(tactic| conv => whnf)
/-! ## rows in steps: the common measure's steps, and how far their numbers grow -/
theorem euc {x y : Int} (hy : y ≠ 0) : (x - x.fdiv y * y).natAbs < y.natAbs ∧ 0 ≤ y * (x - x.fdiv y * y) ∧ (x.fdiv y * y).natAbs + (x - x.fdiv y * y).natAbs ≤ x.natAbs + 2 * y.natAbs ∧ (0 ≤ x * y → (x.fdiv y * y).natAbs + (x - x.fdiv y * y).natAbs ≤ x.natAbs) := by
  have pos : ∀ {x y : Int}, 0 < y → (x - x.fdiv y * y).natAbs < y.natAbs ∧ 0 ≤ y * (x - x.fdiv y * y) ∧ (x.fdiv y * y).natAbs + (x - x.fdiv y * y).natAbs ≤ x.natAbs + 2 * y.natAbs ∧ (0 ≤ x * y → (x.fdiv y * y).natAbs + (x - x.fdiv y * y).natAbs ≤ x.natAbs) := fun {x y} hy => by
    rw [Int.fdiv_eq_ediv_of_nonneg x (by omega)]
    have e1 := Int.mul_ediv_add_emod x y
    have e2 := Int.emod_nonneg x (show y ≠ 0 by omega)
    have e3 := Int.emod_lt_of_pos x hy
    have e4 : x - x / y * y = x % y := by rw [Int.mul_comm]; omega
    rw [e4, Int.mul_comm (x / y) y]
    have e5 : 0 ≤ x → 0 ≤ y * (x / y) := fun h => Int.mul_nonneg (by omega) (Int.ediv_nonneg h (by omega))
    refine ⟨by omega, Int.mul_nonneg (by omega) e2, ?_, fun hxy => ?_⟩
    · rcases Int.lt_or_le x 0 with c | c
      · omega
      · have := e5 c; omega
    · rcases Int.lt_or_le x 0 with c | c
      · have := Int.mul_neg_of_neg_of_pos c hy
        omega
      · have := e5 c; omega
  rcases Int.lt_or_gt_of_ne hy with c | c
  · obtain ⟨h1, h2, h3, h4⟩ := pos (x := -x) (y := -y) (by omega)
    rw [Int.neg_fdiv_neg] at h1 h2 h3 h4
    have e : -x - x.fdiv y * -y = -(x - x.fdiv y * y) := by grind
    have e' : x.fdiv y * -y = -(x.fdiv y * y) := by grind
    rw [e] at h1 h2 h3 h4
    rw [e'] at h3 h4
    simp only [Int.natAbs_neg] at h1 h3 h4
    exact ⟨h1, by rw [Int.neg_mul_neg] at h2; exact h2, h3, fun h => h4 (by rw [Int.neg_mul_neg]; exact h)⟩
  · exact pos c
theorem euc_step {y u v m r : Int} {X : Nat} (h : (m * y).natAbs + r.natAbs ≤ X) : (u + -m * v).natAbs * y.natAbs + v.natAbs * r.natAbs ≤ u.natAbs * y.natAbs + v.natAbs * X := by
  have h1 : (u + -m * v).natAbs ≤ u.natAbs + m.natAbs * v.natAbs := by
    have := Int.natAbs_add_le u (-m * v)
    rw [Int.natAbs_mul, Int.natAbs_neg] at this
    exact this
  have h2 := Nat.mul_le_mul_right y.natAbs h1
  have h3 := Nat.mul_le_mul_left v.natAbs h
  rw [Int.natAbs_mul] at h3
  rw [Nat.add_mul] at h2
  have e : v.natAbs * (m.natAbs * y.natAbs + r.natAbs) = m.natAbs * v.natAbs * y.natAbs + v.natAbs * r.natAbs := by grind
  omega
def BdL (K : Nat) (U : List Int) : Prop := ∀ c, (U.getD c 0).natAbs ≤ K
/-- two rows between the common measure's steps -/
def PairInv (K pl : Nat) (U V : List Int) : Prop := 0 ≤ U.getD pl 0 * V.getD pl 0 ∧ U.getD pl 0 ≠ 0 ∧ ∀ c, (U.getD c 0).natAbs * (V.getD pl 0).natAbs + (V.getD c 0).natAbs * (U.getD pl 0).natAbs ≤ K
def PairFirst (K pl : Nat) (U V : List Int) : Prop := ∀ c, (U.getD c 0).natAbs * (V.getD pl 0).natAbs + (V.getD c 0).natAbs * ((U.getD pl 0).natAbs + 2 * (V.getD pl 0).natAbs) ≤ K
theorem getD_big {l : List Int} {c : Nat} (h : l.length ≤ c) : l.getD c 0 = 0 := by
  rw [List.getD_eq_getElem?_getD, List.getElem?_eq_none h]; rfl
theorem vAdd_getD {x y : List Int} {m : Int} (h : x.length = y.length) (c : Nat) : (vAdd x m y).getD c 0 = x.getD c 0 + m * y.getD c 0 := by
  by_cases hc : c < x.length
  · exact vAdd_get hc (by omega)
  · rw [getD_big (by rw [vAdd_len (n := x.length) rfl h.symm]; omega), getD_big (by omega), getD_big (by omega)]
    simp
theorem pair_step {K pl : Nat} {U V : List Int} (hl : U.length = V.length) (hU : BdL K U) (hV : BdL K V) (hy : V.getD pl 0 ≠ 0) (h : PairInv K pl U V ∨ PairFirst K pl U V) :
    PairInv K pl V (vAdd U (-((U.getD pl 0).fdiv (V.getD pl 0))) V) ∧ BdL K (vAdd U (-((U.getD pl 0).fdiv (V.getD pl 0))) V) ∧ ((vAdd U (-((U.getD pl 0).fdiv (V.getD pl 0))) V).getD pl 0).natAbs < (V.getD pl 0).natAbs := by
  obtain ⟨e1, e2, e3, e4⟩ := euc (x := U.getD pl 0) hy
  have er : (vAdd U (-((U.getD pl 0).fdiv (V.getD pl 0))) V).getD pl 0 = U.getD pl 0 - (U.getD pl 0).fdiv (V.getD pl 0) * V.getD pl 0 := by
    rw [vAdd_getD hl, Int.neg_mul]; omega
  have key : ∀ c, ((vAdd U (-((U.getD pl 0).fdiv (V.getD pl 0))) V).getD c 0).natAbs * (V.getD pl 0).natAbs + (V.getD c 0).natAbs * (U.getD pl 0 - (U.getD pl 0).fdiv (V.getD pl 0) * V.getD pl 0).natAbs ≤ K := fun c => by
    rw [vAdd_getD hl]
    rcases h with ⟨h1, h2, h3⟩ | h
    · exact Nat.le_trans (euc_step (e4 h1)) (h3 c)
    · exact Nat.le_trans (euc_step e3) (h c)
  refine ⟨⟨by rw [er]; exact e2, hy, fun c => ?_⟩, fun c => ?_, by rw [er]; exact e1⟩
  · rw [er]
    have := key c
    omega
  · have h1 := key c
    have h2 : 1 ≤ (V.getD pl 0).natAbs := by omega
    have h3 := Nat.mul_le_mul_left ((vAdd U (-((U.getD pl 0).fdiv (V.getD pl 0))) V).getD c 0).natAbs h2
    omega
/-- all numbers of a row so small -/
def SzL (n : Nat) (U : List Int) : Prop := ∀ c, Sz n (U.getD c 0)
theorem SzL.mono {n m : Nat} {U : List Int} (h : SzL n U) (k : n ≤ m) : SzL m U := fun c => (h c).mono k
theorem SzL.mem {n : Nat} {U : List Int} (h : SzL n U) {a : Int} (ha : a ∈ U) : Sz n a := by
  obtain ⟨c, hc⟩ := List.getElem?_of_mem ha
  have := h c
  rw [List.getD_eq_getElem?_getD, hc] at this
  exact this
theorem first_of {B1 B2 pl : Nat} {U V : List Int} (hU : SzL B1 U) (hV : SzL B2 V) (hb : B2 ≤ B1) : PairFirst (2 ^ (B1 + B2 + 2)) pl U V ∧ BdL (2 ^ (B1 + B2 + 2)) U ∧ BdL (2 ^ (B1 + B2 + 2)) V := by
  have p1 : (2 : Nat) ^ (B1 + B2 + 2) = 4 * 2 ^ (B1 + B2) := by rw [Nat.pow_add]; omega
  have p2 : (2 : Nat) ^ (B1 + B2) = 2 ^ B1 * 2 ^ B2 := Nat.pow_add ..
  have p3 : (2 : Nat) ^ B2 ≤ 2 ^ B1 := Nat.pow_le_pow_right (by decide) hb
  refine ⟨fun c => ?_, fun c => ?_, fun c => ?_⟩
  · have u := hU c; have x := hU pl; have v := hV c; have y := hV pl
    unfold Sz at u x v y
    have m1 : (U.getD c 0).natAbs * (V.getD pl 0).natAbs ≤ 2 ^ B1 * 2 ^ B2 := Nat.mul_le_mul (by omega) (by omega)
    have m2 : (V.getD c 0).natAbs * (U.getD pl 0).natAbs ≤ 2 ^ B2 * 2 ^ B1 := Nat.mul_le_mul (by omega) (by omega)
    have m3 : (V.getD c 0).natAbs * (V.getD pl 0).natAbs ≤ 2 ^ B1 * 2 ^ B2 := Nat.mul_le_mul (by omega) (by omega)
    rw [Nat.mul_comm (2 ^ B2)] at m2
    have e : (V.getD c 0).natAbs * ((U.getD pl 0).natAbs + 2 * (V.getD pl 0).natAbs) = (V.getD c 0).natAbs * (U.getD pl 0).natAbs + 2 * ((V.getD c 0).natAbs * (V.getD pl 0).natAbs) := by grind
    omega
  · have u := hU c
    unfold Sz at u
    have : (2 : Nat) ^ B1 ≤ 2 ^ (B1 + B2 + 2) := Nat.pow_le_pow_right (by decide) (by omega)
    omega
  · have u := hV c
    unfold Sz at u
    have : (2 : Nat) ^ B2 ≤ 2 ^ (B1 + B2 + 2) := Nat.pow_le_pow_right (by decide) (by omega)
    omega
theorem BdL.sz {B : Nat} {U : List Int} (h : BdL (2 ^ B) U) : SzL (B + 1) U := fun c => by
  have := h c
  unfold Sz
  rw [Nat.pow_succ]
  have : (0 : Nat) < 2 ^ B := Nat.pow_pos (by decide)
  omega
theorem fdiv_le {x y : Int} : (x.fdiv y).natAbs ≤ x.natAbs := by
  by_cases hy : y = 0
  · subst hy; simp
  have pos : ∀ {x y : Int}, 0 < y → (x.fdiv y).natAbs ≤ x.natAbs := fun {x y} hy => by
    rw [Int.fdiv_eq_ediv_of_nonneg x (by omega)]
    have e1 := Int.mul_ediv_add_emod x y
    have e2 := Int.emod_nonneg x (show y ≠ 0 by omega)
    have e3 := Int.emod_lt_of_pos x hy
    rcases Int.lt_or_le x 0 with c | c
    · have h1 : x / y < 0 := Int.ediv_neg_of_neg_of_pos c hy
      have h2 : x ≤ x / y := by
        have : y * (x / y) ≤ 1 * (x / y) := Int.mul_le_mul_of_nonpos_right (by omega) (by omega)
        rcases Int.lt_or_le (x / y) x with q | q
        · have h3 : y * (x / y) ≤ y * (x - 1) := Int.mul_le_mul_of_nonneg_left (by omega) (by omega)
          have h4 : y * (x - 1) ≤ 1 * (x - 1) := Int.mul_le_mul_of_nonpos_right (by omega) (by omega)
          have h5 : y * (x - 1) ≤ (x - 1) + (y - 1) * (-1) := by
            have : (y - 1) * (x - 1) ≤ (y - 1) * (-1) := Int.mul_le_mul_of_nonneg_left (by omega) (by omega)
            have e : y * (x - 1) = (x - 1) + (y - 1) * (x - 1) := by grind
            omega
          omega
        · exact q
      omega
    · have h1 := Int.ediv_nonneg c (show 0 ≤ y by omega)
      have h2 := Int.ediv_le_self y c
      omega
  rcases Int.lt_or_gt_of_ne hy with c | c
  · have := pos (x := -x) (y := -y) (by omega)
    rw [Int.neg_fdiv_neg, Int.natAbs_neg] at this
    exact this
  · exact pos c
end L3
namespace L3
open PySem PySem.Spec PyProof.Rows L2
local macro_rules | `(tactic| wtm_at "sh") => `(tactic| conv => whnf)
/-- rows that tell the same, stepped up to the place k -/
structure Ph (n k : Nat) (rows0 rows : Mat) : Prop where
  sq : Sq n n rows
  lo : ∀ (i : Nat) (r : List Int), rows[i]? = some r → ∀ c, c < k → c < i → r.getD c 0 = 0
  dg : ∀ (i : Nat) (r : List Int), rows[i]? = some r → i < k → 0 ≤ r.getD i 0
  dt : (detN n rows).natAbs = (detN n rows0).natAbs
  sp : ∀ r ∈ rows, Span n rows0 r
  ps : ∀ r ∈ rows0, Span n rows r
theorem Ph.zero {n : Nat} {rows : Mat} (h : Sq n n rows) : Ph n 0 rows rows :=
  ⟨h, fun _ _ _ c hc => by omega, fun _ _ _ hi => by omega, rfl, fun r hr => .of_mem h hr, fun r hr => .of_mem h hr⟩
theorem mem_set2 {rows : Mat} {i j : Nat} {x y r : List Int} (h : r ∈ (rows.set i x).set j y) : r ∈ rows ∨ r = x ∨ r = y := by
  rcases List.mem_or_eq_of_mem_set h with h | h
  · rcases List.mem_or_eq_of_mem_set h with h | h
    · exact .inl h
    · exact .inr (.inl h)
  · exact .inr (.inr h)
theorem get_set2 {rows : Mat} {i j a : Nat} {x y r : List Int} (hij : i ≠ j) (h : ((rows.set i x).set j y)[a]? = some r) : (a = i ∧ r = x) ∨ (a = j ∧ r = y) ∨ (a ≠ i ∧ a ≠ j ∧ rows[a]? = some r) := by
  have hlt := (List.getElem?_eq_some_iff.mp h).1
  rw [List.length_set, List.length_set] at hlt
  by_cases h1 : a = j
  · subst h1
    rw [List.getElem?_set_self (by rw [List.length_set]; exact hlt)] at h
    exact .inr (.inl ⟨rfl, (Option.some.inj h).symm⟩)
  · rw [List.getElem?_set_ne (Ne.symm h1)] at h
    by_cases h2 : a = i
    · subst h2
      rw [List.getElem?_set_self hlt] at h
      exact .inl ⟨rfl, (Option.some.inj h).symm⟩
    · rw [List.getElem?_set_ne (Ne.symm h2)] at h
      exact .inr (.inr ⟨h2, h1, h⟩)
theorem vAdd_back {x y : List Int} {m : Int} (h : x.length = y.length) : vAdd (vAdd x (-m) y) m y = x := by
  unfold vAdd
  refine List.ext_getElem (by simp only [List.length_zipWith]; omega) fun i h1 h2 => ?_
  simp only [List.getElem_zipWith]
  grind
theorem Ph.step {n k at_ : Nat} {rows0 rows : Mat} {U V : List Int} (m : Int) (h4 : n ≤ 4) (h0 : Sq n n rows0) (h : Ph n k rows0 rows) (hk : k < at_) (hU : rows[k]? = some U) (hV : rows[at_]? = some V) : Ph n k rows0 ((rows.set k V).set at_ (vAdd U (-m) V)) := by
  have lU := h.sq.2 U (List.mem_of_getElem? hU)
  have lV := h.sq.2 V (List.mem_of_getElem? hV)
  have kl := (List.getElem?_eq_some_iff.mp hU).1
  have al := (List.getElem?_eq_some_iff.mp hV).1
  have lv : (vAdd U (-m) V).length = n := vAdd_len lU lV
  have sq' : Sq n n ((rows.set k V).set at_ (vAdd U (-m) V)) := (h.sq.set lV).set lv
  have ne : k ≠ at_ := by omega
  have uSp := h.sp U (List.mem_of_getElem? hU)
  have vSp := h.sp V (List.mem_of_getElem? hV)
  refine ⟨sq', fun i r hi c hc hci => ?_, fun i r hi hik => ?_, ?_, fun r hr => ?_, fun r hr => ?_⟩
  · rcases get_set2 ne hi with ⟨rfl, rfl⟩ | ⟨rfl, rfl⟩ | ⟨_, _, hi⟩
    · exact h.lo at_ _ hV c hc (by omega)
    · rw [vAdd_getD (by omega), h.lo k _ hU c hc (by omega), h.lo i _ hV c hc (by omega)]; simp
    · exact h.lo i r hi c hc hci
  · rcases get_set2 ne hi with ⟨rfl, rfl⟩ | ⟨rfl, rfl⟩ | ⟨_, _, hi⟩
    · omega
    · omega
    · exact h.dg i r hi hik
  · have e1 := det_add (-m) h4 h.sq ne hU hV
    have hk' : (rows.set k (vAdd U (-m) V))[k]? = some (vAdd U (-m) V) := by rw [List.getElem?_set_self kl]
    have ha' : (rows.set k (vAdd U (-m) V))[at_]? = some V := by rw [List.getElem?_set_ne ne]; exact hV
    have e2 := det_swap h4 (h.sq.set lv) ne hk' ha'
    rw [List.set_set] at e2
    rw [e2, Int.natAbs_neg, e1, h.dt]
  · rcases mem_set2 hr with hr | rfl | rfl
    · exact h.sp r hr
    · exact vSp
    · exact uSp.vadd h0 _ vSp
  · refine Span.trans sq' h.sq (fun s hs => ?_) (h.ps r hr)
    obtain ⟨i, hi⟩ := List.getElem?_of_mem hs
    have mV : V ∈ (rows.set k V).set at_ (vAdd U (-m) V) := List.mem_of_getElem? (i := k) (by rw [List.getElem?_set_ne (Ne.symm ne), List.getElem?_set_self kl])
    have mW : vAdd U (-m) V ∈ (rows.set k V).set at_ (vAdd U (-m) V) := List.mem_of_getElem? (i := at_) (by rw [List.getElem?_set_self (by rw [List.length_set]; exact al)])
    by_cases h1 : i = k
    · subst h1
      rw [hU] at hi
      cases hi
      have z := (Span.of_mem sq' mW).vadd sq' m (.of_mem sq' mV)
      rw [vAdd_back (by omega)] at z
      exact z
    · by_cases h2 : i = at_
      · subst h2
        rw [hV] at hi
        cases hi
        exact .of_mem sq' mV
      · exact .of_mem sq' (List.mem_of_getElem? (i := i) (by rw [List.getElem?_set_ne (Ne.symm h2), List.getElem?_set_ne (Ne.symm h1)]; exact hi))
theorem neg_scale (U : List Int) : U.map (fun a => 0 - a) = U.map ((-1) * ·) := List.map_congr_left fun a _ => by omega
theorem neg_vAdd {n : Nat} {U : List Int} (h : U.length = n) : U.map (fun a => 0 - a) = vAdd (List.replicate n 0) (-1) U := by
  unfold vAdd
  refine List.ext_getElem (by rw [List.length_zipWith, List.length_map, List.length_replicate]; omega) fun i h1 h2 => ?_
  rw [List.getElem_map, List.getElem_zipWith, List.getElem_replicate]
  omega
theorem neg_getD (U : List Int) (c : Nat) : (U.map fun a => 0 - a).getD c 0 = - U.getD c 0 := by
  rw [List.getD_eq_getElem?_getD, List.getD_eq_getElem?_getD, List.getElem?_map]
  cases U[c]? with
  | none => simp
  | some a => simp
theorem Ph.neg {n k : Nat} {rows0 rows : Mat} {U : List Int} (h0 : Sq n n rows0) (h : Ph n k rows0 rows) (hU : rows[k]? = some U) : Ph n k rows0 (rows.set k (U.map fun a => 0 - a)) := by
  have lU := h.sq.2 U (List.mem_of_getElem? hU)
  have kl := (List.getElem?_eq_some_iff.mp hU).1
  have hl := h.sq.1
  have sq' : Sq n n (rows.set k (U.map fun a => 0 - a)) := h.sq.set (by rw [List.length_map]; exact lU)
  have gs : ∀ {i : Nat} {r : List Int}, (rows.set k (U.map fun a => 0 - a))[i]? = some r → (i = k ∧ r = U.map fun a => 0 - a) ∨ (i ≠ k ∧ rows[i]? = some r) := fun {i r} hi => by
    by_cases e : i = k
    · subst e
      rw [List.getElem?_set_self kl] at hi
      exact .inl ⟨rfl, (Option.some.inj hi).symm⟩
    · rw [List.getElem?_set_ne (Ne.symm e)] at hi
      exact .inr ⟨e, hi⟩
  have mN : (U.map fun a => 0 - a) ∈ rows.set k (U.map fun a => 0 - a) := List.mem_of_getElem? (i := k) (by rw [List.getElem?_set_self kl])
  refine ⟨sq', fun i r hi c hc hci => ?_, fun i r hi hik => ?_, ?_, fun r hr => ?_, fun r hr => ?_⟩
  · rcases gs hi with ⟨rfl, rfl⟩ | ⟨_, hi⟩
    · rw [neg_getD, h.lo i _ hU c hc hci]; rfl
    · exact h.lo i r hi c hc hci
  · rcases gs hi with ⟨rfl, rfl⟩ | ⟨_, hi⟩
    · omega
    · exact h.dg i r hi hik
  · rw [neg_scale, det_scale (-1) h.sq (by omega) lU, set_same hU, ← h.dt]
    rw [Int.natAbs_mul]
    simp
  · rcases List.mem_or_eq_of_mem_set hr with hr | rfl
    · exact h.sp r hr
    · rw [neg_vAdd lU]
      exact Span.vadd h0 .zero _ (h.sp U (List.mem_of_getElem? hU))
  · refine Span.trans sq' h.sq (fun s hs => ?_) (h.ps r hr)
    obtain ⟨i, hi⟩ := List.getElem?_of_mem hs
    by_cases h1 : i = k
    · subst h1
      rw [hU] at hi
      cases hi
      have e : U = vAdd (List.replicate n 0) (-1) (U.map fun a => 0 - a) := by
        rw [← neg_vAdd (by rw [List.length_map]; exact lU), List.map_map]
        conv => lhs; rw [← List.map_id U]
        exact List.map_congr_left fun a _ => by simp
      have z := Span.vadd sq' .zero (-1) (.of_mem sq' mN)
      rw [← e] at z
      exact z
    · exact .of_mem sq' (List.mem_of_getElem? (i := i) (by rw [List.getElem?_set_ne (Ne.symm h1)]; exact hi))
/-- rows in steps -/
structure Steps (n : Nat) (rows0 rows : Mat) : Prop where
  sq : Sq n n rows
  tri : Tri 0 rows
  dg : ∀ (i : Nat) (r : List Int), rows[i]? = some r → 0 ≤ r.getD i 0
  dt : (detN n rows).natAbs = (detN n rows0).natAbs
  sp : ∀ r ∈ rows, Span n rows0 r
  ps : ∀ r ∈ rows0, Span n rows r
theorem Ph.done {n : Nat} {rows0 rows : Mat} (h : Ph n n rows0 rows) : Steps n rows0 rows :=
  ⟨h.sq, fun i r hi c hc => h.lo i r hi c (by have := (List.getElem?_eq_some_iff.mp hi).1; have := h.sq.1; omega) (by omega), fun i r hi => h.dg i r hi (by have := (List.getElem?_eq_some_iff.mp hi).1; have := h.sq.1; omega), h.dt, h.sp, h.ps⟩
end L3
namespace L3
open PySem PySem.Spec PyProof.Rows L2
local macro_rules | `(tactic| wtm_at "sh") => `(tactic| conv => whnf)
/-! ## rows of numbers, as data -/
abbrev rowD (r : List Int) : PyData := .list (r.map PyData.int)
abbrev rowT (r : List Int) : PyData := .tuple (r.map PyData.int)
abbrev matP (rows : Mat) : PyData := .tuple (rows.map rowT)
abbrev matO (p : Addr) (rows : Mat) : T := .own p (rows.map fun r => T.d (rowD r))
/-- a row, told as a tuple or as a list -/
def seqB (b : Bool) (r : List Int) : PyData := match b with | true => rowT r | false => rowD r
theorem seqB_of (b : Bool) (r : List Int) : (seqOf (.d (seqB b r))).map (·.2) = some (r.map PyData.int) := by cases b <;> rfl
def N_taken_off : List Str := ["row", "many", "other", "number", "beside"]
def body_taken_off : TS3 := (xRet (xLc (xZipX (xView 0) (xView 2)) (xGTup 2 (xGCons (xGName 3) (xGCons (xGName 4) xGNil))) xYes (xD (x2 kSub (xView 3) (x2 kMul (xView 1) (xView 4)))) [3, 4]))

def sp_taken_off : Sp3 := fun ts Q _ => ∃ p q x y m n k, ts = [.d (seqB p x), .d (.int m), .d (seqB q y)] ∧ Sz n m ∧ (∀ b ∈ y, Sz k b) ∧ n + k < 1000000 ∧ x.length ≤ 1000 ∧ y.length = x.length ∧ ∀ pa, Q (.own pa ((vAdd x (-m) y).map fun a => T.d (.int a))) ts
theorem v_taken_off (ts Q E) (h : sp_taken_off ts Q E) : body_taken_off { nx := fun r => finOk ts r ∧ Q (.d .none) (finF ts r), rt := fun x r => finOk ts r ∧ Q x (finF ts r) } (start3 N_taken_off ts) := by
  obtain ⟨p, q, x, y, m, n, k, rfl, hm, hy, hnk, hx, hl, kk⟩ := h
  have hb : 1000 < sizeLine := by decide
  have hlen : (vAdd x (-m) y).length = x.length := vAdd_len rfl hl
  refine ⟨_, _, seqB_of p x, seqB_of q y, lc_gen ((vAdd x (-m) y).map PyData.int) (by rw [zipD_len, List.length_map, List.length_map, List.length_map]; omega) (by rw [zipD_len, List.length_map, List.length_map]; omega) (fun r0 h0 i u w hu hw R S ku => ?_) fun r0 h0 pa => ?_⟩
  · simp only [wp, puts, List.set_cons_succ, List.set_cons_zero] at h0; subst h0
    obtain ⟨a, b, ha, hb2, rfl⟩ := zip_at hu
    have hw2 : (vAdd x (-m) y)[i]? = some (a + -m * b) := by unfold vAdd; rw [List.getElem?_zipWith, ha, hb2]
    rw [List.getElem?_map, hw2] at hw
    cases hw
    refine ⟨rfl, fun _ => ⟨mulOk hm (hy b (List.mem_of_getElem? hb2)) hnk, ?_⟩, nofun⟩
    rw [show a + -m * b = a - m * b by rw [Int.neg_mul]; omega] at ku
    exact ku _ rfl
  · simp only [wp, puts, List.set_cons_succ, List.set_cons_zero] at h0; subst h0
    refine ⟨⟨⟩, ?_⟩
    rw [List.map_map]
    exact kk pa
/-- a comprehension that chooses -/
theorem lf_gen {α : Type} {f : α → PyData} (h : α → PyData) (pr : α → Bool) (l : List α) (hsz : l.length ≤ sizeLine) {r1 : Rho} {js : List Nat} {g : TG3} {tt : TT3} {te : TE3} {Fin : Addr → List T → Rho → Prop}
    (turn : ∀ r0, wp r1 js = r0 → ∀ u, u ∈ l → ∀ (R : T → Rho → Prop) (S : Rho → Prop), (pr u = true → ∀ r4, wp r4 js = r0 → R (.d (h u)) r4) → (pr u = false → ∀ r3, wp r3 js = r0 → S r3) → g (.d (f u)) r0 fun r2 => tt r2 fun b r3 => (b = true → te r3 R) ∧ (b = false → S r3))
    (fin : ∀ r0, wp r1 js = r0 → ∀ p, Fin p ((l.filter pr).map fun u => T.d (h u)) r0) :
    ∀ p, ∃ W : Nat → List T → Rho → Prop, W 0 [] (wp r1 js) ∧
      (∀ (i : Nat) (x : PyData) (acc : List T) (r : Rho), (l.map f)[i]? = some x → W i acc r → g (.d x) r fun r2 => tt r2 fun b r3 => (b = true → te r3 fun y r4 => acc.length < sizeLine ∧ W (i + 1) (acc ++ [y]) (wp r4 js)) ∧ (b = false → W (i + 1) acc (wp r3 js))) ∧
      ∀ acc r, W (l.map f).length acc r → Fin p acc r := fun p => by
  refine ⟨fun i acc r => r = wp r1 js ∧ acc = ((l.take i).filter pr).map fun u => T.d (h u), ⟨rfl, rfl⟩, fun i x acc r hx hW => ?_, fun acc r hW => ?_⟩
  · obtain ⟨rfl, rfl⟩ := hW
    obtain ⟨u, hu, rfl⟩ := get_fun hx
    have hi : i < l.length := (List.getElem?_eq_some_iff.mp hu).1
    refine turn _ rfl u (List.mem_of_getElem? hu) _ _ (fun e r4 h4 => ⟨?_, h4, ?_⟩) (fun e r3 h3 => ⟨h3, ?_⟩)
    · rw [List.length_map]
      have := List.length_filter_le pr (l.take i)
      rw [List.length_take] at this
      omega
    · rw [take_succ hu, List.filter_append, List.map_append, List.filter_cons_of_pos e]
      rfl
    · rw [take_succ hu, List.filter_append, List.map_append, List.filter_cons_of_neg (by rw [e]; decide)]
      simp
  · obtain ⟨rfl, rfl⟩ := hW
    rw [List.length_map, List.take_length]
    exact fin _ rfl p
def N_is_square : List Str := ["rows", "row"]
def body_is_square : TS3 := (xRet (xD (xAndV (x2 kGt (x1 cLen (xView 0)) (xC (.int 0))) (x2 kEq (xFz (xLc (xSeqI (xView 0)) (xGName 1) (xTest (x2 kNeI (x1 cLen (xView 1)) (x1 cLen (xView 0)))) (xMove 1) [1])) (xFz (xLst xNil))))))

def sqB (rows : Mat) : Bool := decide (0 < rows.length) && decide (∀ r ∈ rows, r.length = rows.length)
def sp_is_square : Sp3 := fun ts Q _ => ∃ rows, ts = [.d (matP rows)] ∧ rows.length ≤ 1000 ∧ (∀ r ∈ rows, r.length ≤ 1000) ∧ Q (.d (.bool (sqB rows))) ts
theorem nest_rows {rows : Mat} (h : rows.length < sizeLine) (k : ∀ r ∈ rows, r.length < sizeLine) : Nest 8 (.list (rows.map rowT)) := ⟨by rw [List.length_map]; exact h, fun x hx => by
  obtain ⟨r, hr, rfl⟩ := List.mem_map.mp hx
  exact ⟨by rw [List.length_map]; exact k r hr, fun y hy => by obtain ⟨z, _, rfl⟩ := List.mem_map.mp hy; exact ⟨⟩⟩⟩
theorem eqv_map_nil {α : Type} (f : α → PyData) (l : List α) : PyData.eqv (.list (l.map f)) (.list []) = decide (l = []) := by
  cases l with
  | nil => rfl
  | cons x l => simp [PyData.eqv, PyData.eqvAll]
theorem filter_none {α : Type} {pr : α → Bool} {l : List α} : (l.filter pr = []) ↔ ∀ u ∈ l, pr u = false := by
  rw [List.filter_eq_nil_iff]
  exact ⟨fun h u hu => by simpa using h u hu, fun h u hu => by rw [h u hu]; decide⟩
theorem v_is_square (ts Q E) (h : sp_is_square ts Q E) : body_is_square { nx := fun r => finOk ts r ∧ Q (.d .none) (finF ts r), rt := fun x r => finOk ts r ∧ Q x (finF ts r) } (start3 N_is_square ts) := by
  obtain ⟨rows, rfl, hlen, hrl, k⟩ := h
  have hb : 1000 < sizeLine := by decide
  have lm : (rows.map rowT).length = rows.length := List.length_map ..
  refine ⟨fun hc => ?_, fun hc => ?_⟩
  · have h0 : 0 < rows.length := by
      have : (0 : Int) < ((rows.map rowT).length : Int) := dT hc
      omega
    refine lf_gen rowT (fun r => decide (r.length ≠ rows.length)) rows (by omega) (fun r0 h0 u hu R S k1 k2 => ?_) fun r0 h0' p => ?_
    · simp only [wp, puts, List.set_cons_succ, List.set_cons_zero] at h0; subst h0
      have e : (!decide (((u.map PyData.int).length : Int) = ((rows.map rowT).length : Int))) = decide (u.length ≠ rows.length) := by
        rw [List.length_map, lm, ← decide_not]
        exact decide_eq_decide.mpr (by omega)
      exact ⟨fun hc2 => k1 (e.symm.trans hc2) _ rfl, fun hc2 => k2 (e.symm.trans hc2) _ rfl⟩
    · simp only [wp, puts, List.set_cons_succ, List.set_cons_zero] at h0'; subst h0'
      refine ⟨nvs_map _ _, sz 0, fun p2 => ⟨rfl, ?_⟩⟩
      rw [fz_own p rowT (rows.filter fun r => decide (r.length ≠ rows.length))]
      have fl := List.length_filter_le (fun r : List Int => decide (r.length ≠ rows.length)) rows
      refine ⟨nest_shaped (nest_rows (by omega) fun r hr => by have := hrl r (List.mem_filter.mp hr).1; omega) (by decide), shp_nilL, ⟨⟩, ?_⟩
      show Q (.d (.bool (PyData.eqv (.list ((rows.filter fun r => decide (r.length ≠ rows.length)).map rowT)) (.list [])))) _
      rw [eqv_map_nil]
      have e : decide ((rows.filter fun r => decide (r.length ≠ rows.length)) = []) = sqB rows := by
        unfold sqB
        rw [decide_eq_true h0, Bool.true_and]
        refine decide_eq_decide.mpr ?_
        rw [filter_none]
        exact ⟨fun h r hr => by have := h r hr; simpa using this, fun h r hr => by simp [h r hr]⟩
      rw [e]
      exact k
  · have h0 : ¬ 0 < rows.length := by
      have : ¬ (0 : Int) < ((rows.map rowT).length : Int) := dF hc
      omega
    have e : sqB rows = false := by
      unfold sqB
      rw [decide_eq_false h0]; rfl
    rw [e] at k
    exact ⟨⟨⟩, k⟩
theorem getI_at {α : Type} {l : List α} {k : Nat} {i : Int} {x : α} (e : i = (k : Int)) (h : l[k]? = some x) : getI l i = some x := by
  rw [e, getI_nat, h]
theorem setI_at {α : Type} {l : List α} {k : Nat} {i : Int} {x : α} (e : i = (k : Int)) (h : k < l.length) : setI l i x = some (l.set k x) := by
  subst e
  unfold setI
  rw [if_pos (by omega), if_pos (by omega)]
  rfl
theorem rowD_at {U : List Int} {k : Nat} {i : Int} (e : i = (k : Int)) (h : k < U.length) : getI (U.map PyData.int) i = some (.int (U.getD k 0)) := by
  refine getI_at e ?_
  rw [List.getElem?_map, List.getD_eq_getElem?_getD, List.getElem?_eq_getElem h]
  rfl
theorem matO_at {rows : Mat} {k : Nat} {i : Int} {U : List Int} (e : i = (k : Int)) (h : rows[k]? = some U) : getI (rows.map fun r => T.d (rowD r)) i = some (T.d (rowD U)) := by
  refine getI_at e ?_
  rw [List.getElem?_map, h]
  rfl
def L1_stepped : TS3 := (xFor (xR2 (x2 kAdd (xView 2) (xC (.int 1))) (x1 cLen (xView 1))) (xGName 3) (xWhile (xTest (x2 kNeI (x2 cIx (x2 cIx (xView 1) (xView 3)) (xView 2)) (xC (.int 0)))) (xSeq (xAsg (xD (x2 kDivF (x2 cIx (x2 cIx (xView 1) (xView 2)) (xView 2)) (x2 cIx (x2 cIx (xView 1) (xView 3)) (xView 2)))) (xGName 4))
  (xAsg (xTup (xCons (xD (x2 cIx (xView 1) (xView 3))) (xCons (xD (xFz (xCall sp_taken_off xNoE (xArg (x2 cIx (xView 1) (xView 2)) (xArg (xView 4) (xArg (x2 cIx (xView 1) (xView 3)) xANil)))))) xNil))) (xGTup 2 (xGCons (xGSub 1 (xView 2)) (xGCons (xGSub 1 (xView 3)) xGNil)))))))
def L2_stepped : TS3 := (xFor (xR1 (x1 cLen (xView 1))) (xGName 2) (xSeq L1_stepped
  (xIfS (xTest (x2 kLt (x2 cIx (x2 cIx (xView 1) (xView 2)) (xView 2)) (xC (.int 0)))) (xAsg (xD (xFz (xLc (xSeqI (x2 cIx (xView 1) (xView 2))) (xGName 6) xYes (xD (x2 kSub (xC (.int 0)) (xView 6))) [6]))) (xGSub 1 (xView 2))) xNext)))
def N_stepped : List Str := ["rows", "left", "place", "at", "many", "row", "number"]
def body_stepped : TS3 := (xSeq (xAsg (xLc (xSeqI (xView 0)) (xGName 5) xYes (xD (xFz (x1 cLst (xView 5)))) [5]) (xGName 1))
  (xSeq L2_stepped
  (xRet (xMove 1))))

theorem v_L1_stepped {D : Ends3} {pl : Addr} {rows0 rows : Mat} {n k b : Nat} {s3 s4 : Option T} (h4 : n ≤ 4) (h0 : Sq n n rows0) (hk : k < n) (h : Ph n k rows0 rows) (hB : ∀ r ∈ rows, SzL b r) (hb : (n - k) * b + 3 * (n - k - 1) < 9000)
    (q : ∀ rows' s3 s4, Ph n k rows0 rows' → (∀ (i : Nat) (r : List Int), rows'[i]? = some r → k < i → r.getD k 0 = 0) → (∀ r ∈ rows', SzL ((n - k) * b + 3 * (n - k - 1)) r) → D.nx [some (.d (matP rows0)), some (matO pl rows'), some (.d (.int (0 + (k : Nat)))), s3, s4, none, none]) :
    L1_stepped D [some (.d (matP rows0)), some (matO pl rows), some (.d (.int (0 + (k : Nat)))), s3, s4, none, none] := by
  have hl := h.sq.1
  have lm : ∀ rows : Mat, (rows.map fun r => T.d (rowD r)).length = rows.length := fun rows => List.length_map ..
  have hb2 : 1000 < sizeLine := by decide
  refine ⟨⟨by omega, by omega, ?_, ?_⟩, fun j r => ∃ rows' s3 s4, r = [some (.d (matP rows0)), some (matO pl rows'), some (.d (.int (0 + (k : Nat)))), s3, s4, none, none] ∧ Ph n k rows0 rows' ∧ (∀ (i : Nat) (r : List Int), rows'[i]? = some r → k < i → i < k + 1 + j → r.getD k 0 = 0) ∧ (∀ r ∈ rows', SzL ((j + 1) * b + 3 * j) r) ∧ (∀ (i : Nat) (r : List Int), rows'[i]? = some r → k + 1 + j ≤ i → SzL b r) ∧ k + 1 + j ≤ n, ⟨rows, _, _, rfl, h, fun i r _ h1 h2 => by omega, fun r hr => (hB r hr).mono (by omega), fun i r hi _ => hB r (List.mem_of_getElem? hi), by omega⟩, fun j x r hx hW => ?_, fun r hW => ?_⟩
  · show -(2 ^ 62) ≤ ((rows.map fun r => T.d (rowD r)).length : Int)
    rw [lm]; omega
  · show ((rows.map fun r => T.d (rowD r)).length : Int) < 2 ^ 62
    rw [lm]; omega
  · obtain ⟨rows', s3, s4, rfl, hp, hz, hs1, hs2, hj⟩ := hW
    obtain ⟨hj1, rfl⟩ := rangeI_get hx
    have hj2 : k + 1 + j < n := by
      have : j < (((rows.map fun r => T.d (rowD r)).length : Int) - (0 + (k : Nat) + 1)).toNat := hj1
      rw [lm] at this
      omega
    have hl' := hp.sq.1
    obtain ⟨U, hU⟩ : ∃ U, rows'[k]? = some U := ⟨_, List.getElem?_eq_getElem (by omega)⟩
    obtain ⟨V, hV⟩ : ∃ V, rows'[k + 1 + j]? = some V := ⟨_, List.getElem?_eq_getElem (by omega)⟩
    have hb3 : (j + 1) * b + 3 * j + b + 3 ≤ (n - k) * b + 3 * (n - k - 1) := by
      have e1 : (j + 1) * b + b = (j + 2) * b := by grind
      have e2 : (j + 2) * b ≤ (n - k) * b := Nat.mul_le_mul_right b (by omega)
      omega
    obtain ⟨f1, f2, f3⟩ := first_of (pl := k) (hs1 U (List.mem_of_getElem? hU)) (hs2 _ V hV (Nat.le_refl _)) (show b ≤ (j + 1) * b + 3 * j by
      have : 1 * b ≤ (j + 1) * b := Nat.mul_le_mul_right b (by omega)
      omega)
    refine ⟨fun m r => ∃ rows2 s4 U V L, r = [some (.d (matP rows0)), some (.own pl L), some (.d (.int (0 + (k : Nat)))), some (.d (.int (0 + (k : Nat) + 1 + (j : Nat)))), s4, none, none] ∧ (L = rows2.map fun r => T.d (rowD r)) ∧ Ph n k rows0 rows2 ∧ (∀ (i : Nat) (r : List Int), rows2[i]? = some r → k < i → i < k + 1 + j → r.getD k 0 = 0) ∧ rows2[k]? = some U ∧ rows2[k + 1 + j]? = some V ∧
      (∀ (i : Nat) (r : List Int), rows2[i]? = some r → i ≠ k → i ≠ k + 1 + j → SzL ((j + 1) * b + 3 * j) r) ∧ (∀ (i : Nat) (r : List Int), rows2[i]? = some r → k + 1 + j + 1 ≤ i → SzL b r) ∧ BdL (2 ^ ((j + 1) * b + 3 * j + b + 2)) U ∧ BdL (2 ^ ((j + 1) * b + 3 * j + b + 2)) V ∧ (PairInv (2 ^ ((j + 1) * b + 3 * j + b + 2)) k U V ∨ PairFirst (2 ^ ((j + 1) * b + 3 * j + b + 2)) k U V) ∧ m = (V.getD k 0).natAbs,
      ⟨_, rows', _, U, V, _, rfl, rfl, hp, hz, hU, hV, fun i r hi _ _ => hs1 r (List.mem_of_getElem? hi), fun i r hi h => hs2 i r hi (by omega), f2, f3, .inr f1, rfl⟩, fun m r hW => ?_⟩
    clear hU hV f1 f2 f3 U V
    obtain ⟨rows2, s4, U, V, L, rfl, rfl, hp2, hz2, hU, hV, g1, g2, bU, bV, pi, rfl⟩ := hW
    have lU := hp2.sq.2 U (List.mem_of_getElem? hU)
    have lV := hp2.sq.2 V (List.mem_of_getElem? hV)
    have hl2 := hp2.sq.1
    have ea : (0 + (k : Nat) + 1 + (j : Nat) : Int) = ((k + 1 + j : Nat) : Int) := by omega
    have ek : (0 + (k : Nat) : Int) = (k : Int) := by omega
    have iV := matO_at (rows := rows2) ea hV
    have iU := matO_at (rows := rows2) ek hU
    have eV := rowD_at (U := V) ek (by omega)
    have eU := rowD_at (U := U) ek (by omega)
    refine ⟨rfl, _, iV, _, eV, fun hc => ?_, fun hc => ?_⟩
    · have hy : V.getD k 0 ≠ 0 := by
        intro e
        have : (!decide (V.getD k 0 = 0)) = true := hc
        rw [e] at this
        simp at this
      have szV := (bV.sz k).log
      obtain ⟨p1, p2, p3⟩ := pair_step (by omega) bU bV hy pi
      have sm : Sz ((j + 1) * b + 3 * j + b + 2 + 1) ((U.getD k 0).fdiv (V.getD k 0)) := (bU.sz k).le fdiv_le
      refine ⟨rfl, _, iU, _, eU, rfl, _, iV, _, eV, ⟨hy, by omega⟩, rfl, _, iV, rfl, _, iU, rfl, _, iV, nd0, false, false, U, V, (U.getD k 0).fdiv (V.getD k 0), _, _, rfl, sm, fun a ha => bV.sz.mem ha, by omega, by omega, by omega, fun pa => ⟨nvs_map _ _, ?_⟩⟩
      rw [fz_own pa PyData.int (vAdd U (-((U.getD k 0).fdiv (V.getD k 0))) V)]
      refine ⟨sz 2, rfl, _, setI_at ek (by rw [lm]; omega), _, setI_at ea (by rw [List.length_set, lm]; omega), _, p3, (rows2.set k V).set (k + 1 + j) (vAdd U (-((U.getD k 0).fdiv (V.getD k 0))) V), _, V, vAdd U (-((U.getD k 0).fdiv (V.getD k 0))) V, _, rfl, ?_, hp2.step _ h4 h0 (by omega) hU hV, fun i r hi h1 h2 => ?_, ?_, ?_, fun i r hi h1 h2 => ?_, fun i r hi h1 => ?_, bV, p2, .inl p1, rfl⟩
      · rw [List.map_set, List.map_set]
        rfl
      · rcases get_set2 (by omega) hi with ⟨rfl, rfl⟩ | ⟨rfl, rfl⟩ | ⟨_, _, hi⟩
        · omega
        · omega
        · exact hz2 i r hi h1 h2
      · rw [List.getElem?_set_ne (by omega), List.getElem?_set_self (by omega)]
      · rw [List.getElem?_set_self (by rw [List.length_set]; omega)]
      · rcases get_set2 (by omega) hi with ⟨rfl, rfl⟩ | ⟨rfl, rfl⟩ | ⟨_, _, hi⟩
        · exact absurd rfl h1
        · exact absurd rfl h2
        · exact g1 i r hi h1 h2
      · rcases get_set2 (by omega) hi with ⟨rfl, rfl⟩ | ⟨rfl, rfl⟩ | ⟨_, _, hi⟩
        · omega
        · omega
        · exact g2 i r hi h1
    · have hy : V.getD k 0 = 0 := by
        have : (!decide (V.getD k 0 = 0)) = false := hc
        simpa using this
      have eB : (j + 1 + 1) * b + 3 * (j + 1) = (j + 1) * b + 3 * j + b + 2 + 1 := by grind
      refine ⟨rows2, _, _, rfl, hp2, fun i r hi h1 h2 => ?_, fun r hr => ?_, fun i r hi h1 => g2 i r hi (by omega), by omega⟩
      · by_cases e : i = k + 1 + j
        · subst e
          rw [hV] at hi
          cases hi
          exact hy
        · exact hz2 i r hi h1 (by omega)
      · rw [eB]
        obtain ⟨i, hi⟩ := List.getElem?_of_mem hr
        by_cases e1 : i = k
        · subst e1
          rw [hU] at hi; cases hi
          exact bU.sz
        · by_cases e2 : i = k + 1 + j
          · subst e2
            rw [hV] at hi; cases hi
            exact bV.sz
          · exact (g1 i r hi e1 e2).mono (by omega)
  · obtain ⟨rows', s3, s4, rfl, hp, hz, hs1, hs2, hj⟩ := hW
    rw [rangeI_len, lm, hl] at hz hs1
    have e : ((n : Int) - (0 + (k : Nat) + 1)).toNat = n - k - 1 := by omega
    rw [e] at hz hs1
    refine q rows' _ _ hp (fun i r hi h1 => hz i r hi h1 (by have := (List.getElem?_eq_some_iff.mp hi).1; have := hp.sq.1; omega)) fun r hr => ?_
    have := hs1 r hr
    rw [show n - k - 1 + 1 = n - k by omega] at this
    exact this
end L3
namespace L3
open PySem PySem.Spec PyProof.Rows L2
local macro_rules | `(tactic| wtm_at "sh") => `(tactic| conv => whnf)
/-- how great the numbers may be at the place k -/
def BB (n b : Nat) : Nat → Nat
  | 0 => b
  | k + 1 => (n - k) * BB n b k + 3 * (n - k - 1)
theorem BB_ok {n b k : Nat} (h4 : n ≤ 4) (hb : b ≤ 370) (hk : k < n) : (n - k) * BB n b k + 3 * (n - k - 1) < 9000 := by
  rcases (show (n = 1 ∧ k = 0) ∨ (n = 2 ∧ k = 0) ∨ (n = 2 ∧ k = 1) ∨ (n = 3 ∧ k = 0) ∨ (n = 3 ∧ k = 1) ∨ (n = 3 ∧ k = 2) ∨ (n = 4 ∧ k = 0) ∨ (n = 4 ∧ k = 1) ∨ (n = 4 ∧ k = 2) ∨ (n = 4 ∧ k = 3) by omega) with ⟨rfl, rfl⟩ | ⟨rfl, rfl⟩ | ⟨rfl, rfl⟩ | ⟨rfl, rfl⟩ | ⟨rfl, rfl⟩ | ⟨rfl, rfl⟩ | ⟨rfl, rfl⟩ | ⟨rfl, rfl⟩ | ⟨rfl, rfl⟩ | ⟨rfl, rfl⟩ <;> simp [BB] <;> omega
def sp_stepped : Sp3 := fun ts Q _ => ∃ rows n b, ts = [.d (matP rows)] ∧ Sq n n rows ∧ n ≤ 4 ∧ (∀ r ∈ rows, SzL b r) ∧ b ≤ 370 ∧ ∀ p rows', Steps n rows rows' → (∀ r ∈ rows', SzL 8999 r) → Q (matO p rows') ts
theorem v_stepped (ts Q E) (h : sp_stepped ts Q E) : body_stepped { nx := fun r => finOk ts r ∧ Q (.d .none) (finF ts r), rt := fun x r => finOk ts r ∧ Q x (finF ts r) } (start3 N_stepped ts) := by
  obtain ⟨rows0, n, b, rfl, h0, h4, hB, hb, k⟩ := h
  have hb2 : 1000 < sizeLine := by decide
  have lm : ∀ rows : Mat, (rows.map fun r => T.d (rowD r)).length = rows.length := fun rows => List.length_map ..
  have hl0 := h0.1
  refine lc_gen (rows0.map rowD) (by simp) (by rw [List.length_map]; omega) (fun r0 h0' i x y hx hy R S ku => ?_) fun r0 h0' pl => ?_
  · simp only [wp, puts, List.set_cons_succ, List.set_cons_zero] at h0'; subst h0'
    obtain ⟨u, hu, rfl⟩ := get_fun hx
    obtain rfl := get_map2 hy hu
    refine ⟨fun _ p => ⟨nvs_d _, ?_⟩, nofun⟩
    rw [fz_outs]
    exact ku _ rfl
  simp only [wp, puts, List.set_cons_succ, List.set_cons_zero] at h0'; subst h0'
  rw [show (rows0.map rowD).map T.d = rows0.map (fun r => T.d (rowD r)) by rw [List.map_map]; rfl]
  refine ⟨by show ((rows0.map fun r => T.d (rowD r)).length : Int) < 2 ^ 62; rw [lm]; omega, by show -(2 ^ 62) ≤ ((rows0.map fun r => T.d (rowD r)).length : Int); rw [lm]; omega, fun j r => ∃ rows' s2 s3 s4 L, r = [some (.d (matP rows0)), some (.own pl L), s2, s3, s4, none, none] ∧ (L = rows'.map fun r => T.d (rowD r)) ∧ Ph n j rows0 rows' ∧ (∀ r ∈ rows', SzL (BB n b j) r) ∧ j ≤ n, ⟨rows0, _, _, _, _, rfl, rfl, Ph.zero h0, hB, by omega⟩, fun j x r hx hW => ?_, fun r hW => ?_⟩
  · obtain ⟨rows', s2, s3, s4, L, rfl, rfl, hp, hs, hj⟩ := hW
    obtain ⟨hj1, rfl⟩ := rangeI_get hx
    have hj2 : j < n := by
      have : j < ((rows0.map fun r => T.d (rowD r)).length : Int).toNat := hj1
      rw [lm] at this
      omega
    refine v_L1_stepped h4 h0 hj2 hp hs (BB_ok h4 hb hj2) fun rows2 s3 s4 hp2 hz hs2 => ?_
    have hl2 := hp2.sq.1
    have ek : (0 + (j : Nat) : Int) = (j : Int) := by omega
    obtain ⟨U, hU⟩ : ∃ U, rows2[j]? = some U := ⟨_, List.getElem?_eq_getElem (by omega)⟩
    have lU := hp2.sq.2 U (List.mem_of_getElem? hU)
    have iU := matO_at (rows := rows2) ek hU
    have eU := rowD_at (U := U) ek (by omega)
    have fin : ∀ rows3, Ph n j rows0 rows3 → (∀ (i : Nat) (r : List Int), rows3[i]? = some r → j < i → r.getD j 0 = 0) → (∀ r, rows3[j]? = some r → 0 ≤ r.getD j 0) → Ph n (j + 1) rows0 rows3 := fun rows3 h z d => ⟨h.sq, fun i r hi c hc hci => by
      by_cases e : c = j
      · subst e; exact z i r hi (by omega)
      · exact h.lo i r hi c (by omega) hci, fun i r hi hij => by
      by_cases e : i = j
      · subst e; exact d r hi
      · exact h.dg i r hi (by omega), h.dt, h.sp, h.ps⟩
    refine ⟨rfl, _, iU, _, eU, fun hc => ?_, fun hc => ?_⟩
    · have hneg : U.getD j 0 < 0 := dT hc
      refine ⟨rfl, _, iU, lc_gen ((U.map fun a => 0 - a).map PyData.int) (by simp) (by rw [List.length_map]; omega) (fun r0 h0' i x y hx hy R S ku => ?_) fun r0 h0' pn => ⟨nvs_d _, ?_⟩⟩
      · simp only [wp, puts, List.set_cons_succ, List.set_cons_zero] at h0'; subst h0'
        obtain ⟨u, hu, rfl⟩ := get_fun hx
        rw [List.map_map] at hy
        obtain rfl := get_map2 hy hu
        exact ⟨fun _ => ku _ rfl, nofun⟩
      simp only [wp, puts, List.set_cons_succ, List.set_cons_zero] at h0'; subst h0'
      rw [fz_outs]
      have e3 : (rows2.map fun r => T.d (rowD r)).set j (T.d (rowD (U.map fun a => 0 - a))) = (rows2.set j (U.map fun a => 0 - a)).map fun r => T.d (rowD r) := by rw [List.map_set]
      refine ⟨_, setI_at ek (by rw [lm]; omega), rows2.set j (U.map fun a => 0 - a), _, _, _, _, rfl, ?_, fin _ (hp2.neg h0 hU) (fun i r hi h1 => ?_) (fun r hi => ?_), fun r hr => ?_, by omega⟩
      · rw [← e3]
      · rw [List.getElem?_set_ne (by omega)] at hi
        exact hz i r hi h1
      · rw [List.getElem?_set_self (by omega)] at hi
        cases hi
        rw [neg_getD]
        omega
      · rcases List.mem_or_eq_of_mem_set hr with hr | rfl
        · exact hs2 r hr
        · intro c
          rw [neg_getD]
          exact (hs2 U (List.mem_of_getElem? hU) c).neg
    · have hpos : ¬ U.getD j 0 < 0 := dF hc
      exact ⟨rows2, _, _, _, _, rfl, rfl, fin _ hp2 hz fun r hi => by rw [hU] at hi; cases hi; omega, hs2, by omega⟩
  · obtain ⟨rows', s2, s3, s4, L, rfl, rfl, hp, hs, hj⟩ := hW
    rw [rangeI_len, lm] at hp hs
    have e : ((rows0.length : Int)).toNat = n := by omega
    rw [e] at hp hs
    refine ⟨⟨⟩, k pl rows' hp.done fun r hr => (hs r hr).mono ?_⟩
    match n, h4 with
    | 0, _ => show b ≤ 8999; omega
    | m + 1, h4 => exact Nat.le_of_lt_succ (BB_ok h4 hb (Nat.lt_succ_self m))
end L3
namespace L3
open PySem PySem.Spec PyProof.Rows L2
local macro_rules | `(tactic| wtm_at "sh") => `(tactic| conv => whnf)
theorem prodD_snoc : ∀ (o : Nat) (l : Mat) (r : List Int), prodD o (l ++ [r]) = prodD o l * r.getD (o + l.length) 0
  | o, [], r => by show r.getD o 0 * 1 = 1 * r.getD (o + 0) 0; rw [Nat.add_zero]; omega
  | o, x :: l, r => by
    show x.getD o 0 * prodD (o + 1) (l ++ [r]) = x.getD o 0 * prodD (o + 1) l * r.getD (o + (l.length + 1)) 0
    rw [prodD_snoc (o + 1) l r, show o + 1 + l.length = o + (l.length + 1) by omega]
    grind
theorem prodD_nonneg : ∀ (o : Nat) (l : Mat), (∀ (i : Nat) (r : List Int), l[i]? = some r → 0 ≤ r.getD (o + i) 0) → 0 ≤ prodD o l
  | _, [], _ => by show (0 : Int) ≤ 1; decide
  | o, x :: l, h => by
    refine Int.mul_nonneg (h 0 x rfl) (prodD_nonneg (o + 1) l fun i r hi => ?_)
    have := h (i + 1) r (by simpa using hi)
    rw [show o + 1 + i = o + (i + 1) by omega]
    exact this
theorem Steps.prod {n : Nat} {rows0 rows : Mat} (h : Steps n rows0 rows) : prodD 0 rows = (detN n rows0).natAbs := by
  have e := det_tri n rows h.sq h.tri
  have p : 0 ≤ prodD 0 rows := prodD_nonneg 0 rows fun i r hi => by rw [Nat.zero_add]; exact h.dg i r hi
  have d := h.dt
  rw [e] at d
  omega
theorem enum_get {α : Type} {f : α → PyData} {l : List α} {i : Nat} {x : PyData} (h : (enumD (l.map f))[i]? = some x) : ∃ u, l[i]? = some u ∧ x = .tuple [.int (i : Nat), f u] := by
  unfold enumD at h
  rw [List.getElem?_zipWith] at h
  cases e : (l.map f)[i]? with
  | none => rw [e] at h; cases h1 : (List.range (l.map f).length)[i]? <;> rw [h1] at h <;> cases h
  | some y =>
    have hi := (List.getElem?_eq_some_iff.mp e).1
    rw [e, List.getElem?_range hi] at h
    obtain ⟨u, hu, rfl⟩ := get_fun e
    exact ⟨u, hu, (Option.some.inj h).symm⟩
def N_measure_of : List Str := ["rows", "found", "place", "row"]
def body_measure_of : TS3 := (xSeq (xAsg (xD (xC (.int 1))) (xGName 1))
  (xSeq (xFor (xEnum (xFz (xCall sp_stepped xNoE (xArg (xView 0) xANil)))) (xGTup 2 (xGCons (xGName 2) (xGCons (xGName 3) xGNil))) (xAugMul 1 (x2 cIx (xView 3) (xView 2))))
  (xRet (xMove 1))))

def sp_measure_of : Sp3 := fun ts Q _ => ∃ rows n b, ts = [.d (matP rows)] ∧ Sq n n rows ∧ n ≤ 4 ∧ (∀ r ∈ rows, SzL b r) ∧ b ≤ 370 ∧ Q (.d (.int (detN n rows).natAbs)) ts
theorem v_measure_of (ts Q E) (h : sp_measure_of ts Q E) : body_measure_of { nx := fun r => finOk ts r ∧ Q (.d .none) (finF ts r), rt := fun x r => finOk ts r ∧ Q x (finF ts r) } (start3 N_measure_of ts) := by
  obtain ⟨rows0, n, b, rfl, h0, h4, hB, hb, k⟩ := h
  have hb2 : 1000 < sizeLine := by decide
  refine ⟨nd0, rows0, n, b, rfl, h0, h4, hB, hb, fun p rows hs hz => ⟨nvs_map _ _, ?_⟩⟩
  rw [fz_own p rowD rows]
  have hl := hs.sq.1
  refine ⟨fun i r => ∃ c s2 s3, r = [some (.d (matP rows0)), some (.d (.int c)), s2, s3] ∧ c = prodD 0 (rows.take i) ∧ Sz (9000 * i + 1) c ∧ i ≤ rows.length, ⟨1, _, _, rfl, rfl, by unfold Sz; decide, by omega⟩, fun i x r hx hW => ?_, fun r hW => ?_⟩
  · obtain ⟨c, s2, s3, rfl, rfl, sc, hi⟩ := hW
    obtain ⟨u, hu, rfl⟩ := enum_get hx
    have hi2 := (List.getElem?_eq_some_iff.mp hu).1
    have lu := hs.sq.2 u (List.mem_of_getElem? hu)
    have su := hz u (List.mem_of_getElem? hu) i
    have e1 : prodD 0 (rows.take (i + 1)) = prodD 0 (rows.take i) * u.getD i 0 := by
      rw [take_succ hu, prodD_snoc, List.length_take, Nat.min_eq_left (by omega), Nat.zero_add]
    exact ⟨rfl, _, rowD_at (k := i) rfl (by omega), mulOk sc su (by omega), _, _, _, rfl, e1.symm, (sc.mul su).mono (by omega), by omega⟩
  · obtain ⟨c, s2, s3, rfl, rfl, sc, hi⟩ := hW
    rw [enumD_len, List.length_map, List.take_length, hs.prod]
    exact ⟨⟨⟩, k⟩
def N_is_lattice : List Str := ["rows"]
def body_is_lattice : TS3 := (xRet (xD (xAndV (xFz (xCall sp_is_square xNoE (xArg (xView 0) xANil))) (x2 kGt (xFz (xCall sp_measure_of xNoE (xArg (xView 0) xANil))) (xC (.int 0))))))

def latB (rows : Mat) : Bool := sqB rows && decide (detN rows.length rows ≠ 0)
theorem sqB_iff {rows : Mat} : sqB rows = true ↔ 0 < rows.length ∧ Sq rows.length rows.length rows := by
  unfold sqB
  rw [Bool.and_eq_true, decide_eq_true_eq, decide_eq_true_eq]
  exact ⟨fun h => ⟨h.1, rfl, h.2⟩, fun h => ⟨h.1, h.2.2⟩⟩
def sp_is_lattice : Sp3 := fun ts Q _ => ∃ rows b, ts = [.d (matP rows)] ∧ rows.length ≤ 1000 ∧ (∀ r ∈ rows, r.length ≤ 1000) ∧ (sqB rows = true → rows.length ≤ 4) ∧ (∀ r ∈ rows, SzL b r) ∧ b ≤ 370 ∧ Q (.d (.bool (latB rows))) ts
theorem v_is_lattice (ts Q E) (h : sp_is_lattice ts Q E) : body_is_lattice { nx := fun r => finOk ts r ∧ Q (.d .none) (finF ts r), rt := fun x r => finOk ts r ∧ Q x (finF ts r) } (start3 N_is_lattice ts) := by
  obtain ⟨rows, b, rfl, h1, h2, h3, hB, hb, k⟩ := h
  refine ⟨nd0, rows, rfl, h1, h2, fun hc => ?_, fun hc => ?_⟩
  · obtain ⟨h0, hq⟩ := sqB_iff.mp hc
    refine ⟨nd0, rows, rows.length, b, rfl, hq, h3 hc, hB, hb, ⟨⟩, ?_⟩
    have e : decide ((0 : Int) < ((detN rows.length rows).natAbs : Nat)) = latB rows := by
      unfold latB
      rw [hc, Bool.true_and]
      exact decide_eq_decide.mpr (by omega)
    rw [← e] at k
    exact k
  · have e : latB rows = false := by
      unfold latB
      rw [show sqB rows = false from hc]; rfl
    rw [e] at k
    exact ⟨⟨⟩, k⟩
def N_need_lattice : List Str := ["rows"]
def body_need_lattice : TS3 := (xIfS (xNot (xTest (xFz (xCall sp_is_lattice xNoE (xArg (xView 0) xANil))))) xNever xNext)

def sp_need_lattice : Sp3 := fun ts Q _ => ∃ rows b, ts = [.d (matP rows)] ∧ rows.length ≤ 4 ∧ latB rows = true ∧ (∀ r ∈ rows, SzL b r) ∧ b ≤ 370 ∧ Q (.d .none) ts
theorem v_need_lattice (ts Q E) (h : sp_need_lattice ts Q E) : body_need_lattice { nx := fun r => finOk ts r ∧ Q (.d .none) (finF ts r), rt := fun x r => finOk ts r ∧ Q x (finF ts r) } (start3 N_need_lattice ts) := by
  obtain ⟨rows, b, rfl, h1, h2, hB, hb, k⟩ := h
  have hq := sqB_iff.mp ((Bool.and_eq_true _ _ ▸ h2 : sqB rows = true ∧ _).1)
  refine ⟨nd0, rows, b, rfl, by omega, fun r hr => by have := hq.2.2 r hr; omega, fun _ => h1, hB, hb, fun hc => ?_, fun _ => ⟨⟨⟩, k⟩⟩
  have : (!latB rows) = true := hc
  rw [h2] at this
  cases this
end L3
namespace L3
open PySem PySem.Spec PyProof.Rows L2
local macro_rules | `(tactic| wtm_at "sh") => `(tactic| conv => whnf)
theorem get_set1 {rows : Mat} {i a : Nat} {x r : List Int} (h : (rows.set i x)[a]? = some r) : (a = i ∧ r = x) ∨ (a ≠ i ∧ rows[a]? = some r) := by
  by_cases e : a = i
  · subst e
    have hlt := (List.getElem?_eq_some_iff.mp h).1
    rw [List.length_set] at hlt
    rw [List.getElem?_set_self hlt] at h
    exact .inl ⟨rfl, (Option.some.inj h).symm⟩
  · rw [List.getElem?_set_ne (Ne.symm e)] at h
    exact .inr ⟨e, h⟩
/-- a row below put so many times to one above: still rows in steps -/
theorem Steps.sub {n a k : Nat} {rows0 rows : Mat} {U V : List Int} (m : Int) (h4 : n ≤ 4) (h0 : Sq n n rows0) (h : Steps n rows0 rows) (hk : a < k) (hU : rows[a]? = some U) (hV : rows[k]? = some V) : Steps n rows0 (rows.set a (vAdd U (-m) V)) := by
  have lU := h.sq.2 U (List.mem_of_getElem? hU)
  have lV := h.sq.2 V (List.mem_of_getElem? hV)
  have al := (List.getElem?_eq_some_iff.mp hU).1
  have lv : (vAdd U (-m) V).length = n := vAdd_len lU lV
  have sq' : Sq n n (rows.set a (vAdd U (-m) V)) := h.sq.set lv
  have uSp := h.sp U (List.mem_of_getElem? hU)
  have vSp := h.sp V (List.mem_of_getElem? hV)
  refine ⟨sq', fun i r hi c hc => ?_, fun i r hi => ?_, ?_, fun r hr => ?_, fun r hr => ?_⟩
  · rcases get_set1 hi with ⟨rfl, rfl⟩ | ⟨_, hi⟩
    · rw [vAdd_getD (by omega), h.tri i _ hU c hc, h.tri k _ hV c (by omega)]; simp
    · exact h.tri i r hi c hc
  · rcases get_set1 hi with ⟨rfl, rfl⟩ | ⟨_, hi⟩
    · rw [vAdd_getD (by omega), h.tri k _ hV i (by omega)]
      have := h.dg i _ hU
      simpa using this
    · exact h.dg i r hi
  · rw [det_add (-m) h4 h.sq (by omega) hU hV, h.dt]
  · rcases List.mem_or_eq_of_mem_set hr with hr | rfl
    · exact h.sp r hr
    · exact uSp.vadd h0 _ vSp
  · refine Span.trans sq' h.sq (fun s hs => ?_) (h.ps r hr)
    obtain ⟨i, hi⟩ := List.getElem?_of_mem hs
    by_cases h1 : i = a
    · subst h1
      rw [hU] at hi
      cases hi
      have mV : V ∈ rows.set i (vAdd U (-m) V) := List.mem_of_getElem? (i := k) (by rw [List.getElem?_set_ne (by omega)]; exact hV)
      have mW : vAdd U (-m) V ∈ rows.set i (vAdd U (-m) V) := List.mem_of_getElem? (i := i) (by rw [List.getElem?_set_self al])
      have z := (Span.of_mem sq' mW).vadd sq' m (.of_mem sq' mV)
      rw [vAdd_back (by omega)] at z
      exact z
    · exact .of_mem sq' (List.mem_of_getElem? (i := i) (by rw [List.getElem?_set_ne (Ne.symm h1)]; exact hi))
theorem prodD_ne : ∀ (o : Nat) (l : Mat), prodD o l ≠ 0 → ∀ (i : Nat) (r : List Int), l[i]? = some r → r.getD (o + i) 0 ≠ 0
  | _, [], _, i, r, h => by simp at h
  | o, x :: l, hn, 0, r, h => by
    have : x = r := by simpa using h
    subst this
    intro e
    exact hn (by show x.getD o 0 * _ = 0; rw [show x.getD o 0 = 0 from e, Int.zero_mul])
  | o, x :: l, hn, i + 1, r, h => by
    have h2 : l[i]? = some r := by simpa using h
    have e : o + (i + 1) = o + 1 + i := by omega
    rw [e]
    exact prodD_ne (o + 1) l (fun z => hn (by show _ * prodD (o + 1) l = 0; rw [z, Int.mul_zero])) i r h2
theorem Steps.pos {n : Nat} {rows0 rows : Mat} (h : Steps n rows0 rows) (hd : detN n rows0 ≠ 0) : ∀ (i : Nat) (r : List Int), rows[i]? = some r → 0 < r.getD i 0 := fun i r hi => by
  have := prodD_ne 0 rows (by rw [h.prod]; omega) i r hi
  rw [Nat.zero_add] at this
  have := h.dg i r hi
  omega
/-- standing rows -/
structure Stand (n : Nat) (rows0 rows : Mat) : Prop where
  st : Steps n rows0 rows
  pos : ∀ (i : Nat) (r : List Int), rows[i]? = some r → 0 < r.getD i 0
  red : ∀ (i j : Nat) (r s : List Int), rows[i]? = some r → rows[j]? = some s → i < j → 0 ≤ r.getD j 0 ∧ r.getD j 0 < s.getD j 0
def L1_standing : TS3 := (xFor (xR1 (xView 2)) (xGName 3) (xSeq (xAsg (xD (x2 kDiv (x2 cIx (x2 cIx (xView 1) (xView 3)) (xView 2)) (x2 cIx (x2 cIx (xView 1) (xView 2)) (xView 2)))) (xGName 4))
  (xAsg (xD (xFz (xCall sp_taken_off xNoE (xArg (x2 cIx (xView 1) (xView 3)) (xArg (xView 4) (xArg (x2 cIx (xView 1) (xView 2)) xANil)))))) (xGSub 1 (xView 3)))))
def L2_standing : TS3 := (xFor (xR1 (x1 cLen (xView 1))) (xGName 2) L1_standing)
def N_standing : List Str := ["rows", "left", "place", "at", "many", "row"]
def body_standing : TS3 := (xSeq (xDrop (xD (xFz (xCall sp_need_lattice xNoE (xArg (xView 0) xANil)))))
  (xSeq (xAsg (xCall sp_stepped xNoE (xArg (xView 0) xANil)) (xGName 1))
  (xSeq L2_standing
  (xRet (xD (x1 cTup (xFz (xLc (xSeqI (xFz (xMove 1))) (xGName 5) xYes (xD (x1 cTup (xView 5))) [5]))))))))

theorem v_L1_standing {D : Ends3} {pl : Addr} {rows0 rows : Mat} {n k : Nat} {s3 s4 : Option T} (h4 : n ≤ 4) (h0 : Sq n n rows0) (hk : k < n) (h : Steps n rows0 rows) (hp : ∀ (i : Nat) (r : List Int), rows[i]? = some r → 0 < r.getD i 0) (hs : ∀ r ∈ rows, SzL (9000 * (k + 1)) r) (hs2 : ∀ (i : Nat) (r : List Int), rows[i]? = some r → k ≤ i → SzL 8999 r)
    (hr : ∀ (i j : Nat) (r s : List Int), rows[i]? = some r → rows[j]? = some s → i < j → j < k → 0 ≤ r.getD j 0 ∧ r.getD j 0 < s.getD j 0)
    (q : ∀ rows' s3 s4, Steps n rows0 rows' → (∀ (i : Nat) (r : List Int), rows'[i]? = some r → 0 < r.getD i 0) → (∀ r ∈ rows', SzL (9000 * (k + 1 + 1)) r) → (∀ (i : Nat) (r : List Int), rows'[i]? = some r → k ≤ i → SzL 8999 r) →
      (∀ (i j : Nat) (r s : List Int), rows'[i]? = some r → rows'[j]? = some s → i < j → j < k + 1 → 0 ≤ r.getD j 0 ∧ r.getD j 0 < s.getD j 0) → D.nx [some (.d (matP rows0)), some (matO pl rows'), some (.d (.int (0 + (k : Nat)))), s3, s4, none]) :
    L1_standing D [some (.d (matP rows0)), some (matO pl rows), some (.d (.int (0 + (k : Nat)))), s3, s4, none] := by
  have hb2 : 1000 < sizeLine := by decide
  have lm : ∀ rows : Mat, (rows.map fun r => T.d (rowD r)).length = rows.length := fun rows => List.length_map ..
  have hl := h.sq.1
  obtain ⟨V, hV⟩ : ∃ V, rows[k]? = some V := ⟨_, List.getElem?_eq_getElem (by omega)⟩
  have ek : (0 + (k : Nat) : Int) = (k : Int) := by omega
  refine ⟨by omega, by omega, fun j r => ∃ rows' s3 s4 L, r = [some (.d (matP rows0)), some (.own pl L), some (.d (.int (0 + (k : Nat)))), s3, s4, none] ∧ (L = rows'.map fun r => T.d (rowD r)) ∧ Steps n rows0 rows' ∧ (∀ (i : Nat) (r : List Int), rows'[i]? = some r → 0 < r.getD i 0) ∧ (∀ (i : Nat) (r : List Int), rows'[i]? = some r → i < j → SzL (9000 * (k + 1 + 1)) r) ∧ (∀ (i : Nat), j ≤ i → rows'[i]? = rows[i]?) ∧
      (∀ (i j : Nat) (r s : List Int), rows'[i]? = some r → rows'[j]? = some s → i < j → j < k → 0 ≤ r.getD j 0 ∧ r.getD j 0 < s.getD j 0) ∧ (∀ (i : Nat) (r : List Int), rows'[i]? = some r → i < j → 0 ≤ r.getD k 0 ∧ r.getD k 0 < V.getD k 0) ∧ j ≤ k, ⟨rows, _, _, _, rfl, rfl, h, hp, fun i r _ h => by omega, fun i _ => rfl, hr, fun i r _ h => by omega, by omega⟩, fun j x r hx hW => ?_, fun r hW => ?_⟩
  · obtain ⟨rows', s3, s4, L, rfl, rfl, g1, g2, g3, g4, g5, g6, g7⟩ := hW
    obtain ⟨hj1, rfl⟩ := rangeI_get hx
    have hj2 : j < k := by omega
    have hl' := g1.sq.1
    obtain ⟨U, hU0⟩ : ∃ U, rows[j]? = some U := ⟨_, List.getElem?_eq_getElem (by omega)⟩
    have hU : rows'[j]? = some U := by rw [g4 j (Nat.le_refl _)]; exact hU0
    have hV' : rows'[k]? = some V := by rw [g4 k (by omega)]; exact hV
    have lU := g1.sq.2 U (List.mem_of_getElem? hU)
    have lV := g1.sq.2 V (List.mem_of_getElem? hV')
    have ej : (0 + (j : Nat) : Int) = (j : Int) := by omega
    have iV := matO_at (rows := rows') ek hV'
    have iU := matO_at (rows := rows') ej hU
    have eV := rowD_at (U := V) ek (by omega)
    have eU := rowD_at (U := U) ek (by omega)
    have zU : SzL (9000 * (k + 1)) U := hs U (List.mem_of_getElem? hU0)
    have zV : SzL 8999 V := hs2 k V hV (Nat.le_refl _)
    have pV : 0 < V.getD k 0 := hp k V hV
    have em : U.getD k 0 / V.getD k 0 = (U.getD k 0).fdiv (V.getD k 0) := (Int.fdiv_eq_ediv_of_nonneg _ (by omega)).symm
    have sm : Sz (9000 * (k + 1)) (U.getD k 0 / V.getD k 0) := (zU k).le (by rw [em]; exact fdiv_le)
    have ec : ∀ c, (vAdd U (-(U.getD k 0 / V.getD k 0)) V).getD c 0 = U.getD c 0 + -(U.getD k 0 / V.getD k 0) * V.getD c 0 := fun c => vAdd_getD (by omega) c
    have e0 : ∀ c, c < k → (vAdd U (-(U.getD k 0 / V.getD k 0)) V).getD c 0 = U.getD c 0 := fun c hc => by
      rw [ec, g1.tri k V hV' c (by omega)]; simp
    have e1 : (vAdd U (-(U.getD k 0 / V.getD k 0)) V).getD k 0 = U.getD k 0 % V.getD k 0 := by
      rw [ec]
      have := Int.mul_ediv_add_emod (U.getD k 0) (V.getD k 0)
      have := Int.mul_comm (V.getD k 0) (U.getD k 0 / V.getD k 0)
      rw [Int.neg_mul]; omega
    refine ⟨rfl, _, iU, _, eU, rfl, _, iV, _, eV, divOk pV (zV k) (by decide), rfl, _, iU, rfl, _, iV, nd0, false, false, U, V, U.getD k 0 / V.getD k 0, _, _, rfl, sm, fun a ha => zV.mem ha, by omega, by omega, by omega, fun pa => ⟨nvs_map _ _, ?_⟩⟩
    rw [fz_own pa PyData.int (vAdd U (-(U.getD k 0 / V.getD k 0)) V)]
    refine ⟨_, setI_at ej (by rw [lm]; omega), rows'.set j (vAdd U (-(U.getD k 0 / V.getD k 0)) V), _, _, _, rfl, ?_, g1.sub _ h4 h0 hj2 hU hV', fun i r hi => ?_, fun i r hi hij => ?_, fun i hi => ?_, fun i j2 r s hi hj hij hjk => ?_, fun i r hi hij => ?_, by omega⟩
    · rw [List.map_set]
    · rcases get_set1 hi with ⟨rfl, rfl⟩ | ⟨_, hi⟩
      · rw [e0 _ hj2]; exact g2 _ _ hU
      · exact g2 i r hi
    · rcases get_set1 hi with ⟨rfl, rfl⟩ | ⟨ne, hi⟩
      · intro c
        rw [ec]
        have s1 : Sz (9000 * (k + 1) + 8999) (-(U.getD k 0 / V.getD k 0) * V.getD c 0) := sm.neg.mul (zV c)
        exact ((zU c).mono (by omega)).add s1 |>.mono (by omega)
      · exact g3 i r hi (by omega)
    · rw [List.getElem?_set_ne (by omega)]
      exact g4 i (by omega)
    · rcases get_set1 hj with ⟨rfl, rfl⟩ | ⟨ne2, hj'⟩
      · rcases get_set1 hi with ⟨rfl, rfl⟩ | ⟨ne, hi'⟩
        · omega
        · rw [e0 _ hjk]; exact g5 i _ r _ hi' hU hij hjk
      · rcases get_set1 hi with ⟨rfl, rfl⟩ | ⟨ne, hi'⟩
        · rw [e0 _ hjk]; exact g5 _ j2 _ s hU hj' hij hjk
        · exact g5 i j2 r s hi' hj' hij hjk
    · rcases get_set1 hi with ⟨rfl, rfl⟩ | ⟨ne, hi⟩
      · rw [e1]; exact ⟨Int.emod_nonneg _ (by omega), Int.emod_lt_of_pos _ pV⟩
      · exact g6 i r hi (by omega)
  · obtain ⟨rows', s3, s4, L, rfl, rfl, g1, g2, g3, g4, g5, g6, g7⟩ := hW
    rw [rangeI_len] at g3 g4 g6
    have e : ((0 + (k : Nat) : Int)).toNat = k := by omega
    rw [e] at g3 g4 g6
    refine q rows' _ _ g1 g2 (fun r hr => ?_) (fun i r hi hik => hs2 i r (by rw [← g4 i hik]; exact hi) hik) fun i j2 r s hi hj hij hjk => ?_
    · obtain ⟨i, hi⟩ := List.getElem?_of_mem hr
      by_cases c : i < k
      · exact g3 i r hi c
      · exact (hs2 i r (by rw [← g4 i (by omega)]; exact hi) (by omega)).mono (by omega)
    · by_cases c : j2 = k
      · subst c
        rw [g4 j2 (Nat.le_refl _), hV] at hj
        cases hj
        exact g6 i r hi hij
      · exact g5 i j2 r s hi hj hij (by omega)
def sp_standing : Sp3 := fun ts Q _ => ∃ rows b, ts = [.d (matP rows)] ∧ rows.length ≤ 4 ∧ latB rows = true ∧ (∀ r ∈ rows, SzL b r) ∧ b ≤ 370 ∧ ∀ rows', Stand rows.length rows rows' → Q (.d (matP rows')) ts
theorem v_standing (ts Q E) (h : sp_standing ts Q E) : body_standing { nx := fun r => finOk ts r ∧ Q (.d .none) (finF ts r), rt := fun x r => finOk ts r ∧ Q x (finF ts r) } (start3 N_standing ts) := by
  obtain ⟨rows0, b, rfl, h4, hlat, hB, hb, k⟩ := h
  have hb2 : 1000 < sizeLine := by decide
  have lm : ∀ rows : Mat, (rows.map fun r => T.d (rowD r)).length = rows.length := fun rows => List.length_map ..
  have hq := sqB_iff.mp ((Bool.and_eq_true _ _ ▸ hlat : sqB rows0 = true ∧ _).1)
  have hd : detN rows0.length rows0 ≠ 0 := of_decide_eq_true ((Bool.and_eq_true _ _ ▸ hlat : sqB rows0 = true ∧ _).2)
  have h0 := hq.2
  generalize hn : rows0.length = n at h0 hd h4 k hq
  refine ⟨nd0, rows0, b, rfl, by omega, hlat, hB, hb, nd0, rows0, n, b, rfl, h0, h4, hB, hb, fun pl rows hs hz => ?_⟩
  refine ⟨by show ((rows.map fun r => T.d (rowD r)).length : Int) < 2 ^ 62; rw [lm, hs.sq.1]; omega, by show -(2 ^ 62) ≤ ((rows.map fun r => T.d (rowD r)).length : Int); rw [lm]; omega, fun j r => ∃ rows' s2 s3 s4 L, r = [some (.d (matP rows0)), some (.own pl L), s2, s3, s4, none] ∧ (L = rows'.map fun r => T.d (rowD r)) ∧ Steps n rows0 rows' ∧ (∀ (i : Nat) (r : List Int), rows'[i]? = some r → 0 < r.getD i 0) ∧ (∀ r ∈ rows', SzL (9000 * (j + 1)) r) ∧ (∀ (i : Nat) (r : List Int), rows'[i]? = some r → j ≤ i → SzL 8999 r) ∧
      (∀ (i k : Nat) (r s : List Int), rows'[i]? = some r → rows'[k]? = some s → i < k → k < j → 0 ≤ r.getD k 0 ∧ r.getD k 0 < s.getD k 0) ∧ j ≤ n, ⟨rows, _, _, _, _, rfl, rfl, hs, hs.pos hd, fun r hr => (hz r hr).mono (by omega), fun i r hi _ => hz r (List.mem_of_getElem? hi), fun _ _ _ _ _ _ _ h => by omega, by omega⟩, fun j x r hx hW => ?_, fun r hW => ?_⟩
  · obtain ⟨rows', s2, s3, s4, L, rfl, rfl, g1, g2, g3, g4, g5, g6⟩ := hW
    obtain ⟨hj1, rfl⟩ := rangeI_get hx
    have hj2 : j < n := by
      have : j < ((rows.map fun r => T.d (rowD r)).length : Int).toNat := hj1
      rw [lm, hs.sq.1] at this
      omega
    exact v_L1_standing h4 h0 hj2 g1 g2 g3 g4 g5 fun rows2 s3 s4 f1 f2 f3 f4 f5 => ⟨rows2, _, _, _, _, rfl, rfl, f1, f2, f3, fun i r hi h => f4 i r hi (by omega), f5, by omega⟩
  · obtain ⟨rows', s2, s3, s4, L, rfl, rfl, g1, g2, g3, g4, g5, g6⟩ := hW
    rw [rangeI_len, lm, hs.sq.1] at g5
    have e : (((n : Nat) : Int)).toNat = n := by omega
    rw [e] at g5
    have hl' := g1.sq.1
    have st : Stand n rows0 rows' := ⟨g1, g2, fun i j r s hi hj hij => g5 i j r s hi hj hij (by have := (List.getElem?_eq_some_iff.mp hj).1; omega)⟩
    refine ⟨nvs_map _ _, ?_⟩
    rw [fz_own pl rowD rows']
    refine lc_gen (rows'.map rowT) (by simp) (by rw [List.length_map]; omega) (fun r0 h0' i x y hx hy R S ku => ?_) fun r0 h0' pn => ⟨nvs_d _, ?_⟩
    · simp only [wp, puts, List.set_cons_succ, List.set_cons_zero] at h0'; subst h0'
      obtain ⟨u, hu, rfl⟩ := get_fun hx
      obtain rfl := get_map2 hy hu
      exact ⟨fun _ => ku _ rfl, nofun⟩
    simp only [wp, puts, List.set_cons_succ, List.set_cons_zero] at h0'; subst h0'
    rw [fz_outs]
    exact ⟨⟨⟩, k rows' st⟩
end L3
namespace L3
open PySem PySem.Spec PyProof.Rows L2
local macro_rules | `(tactic| wtm_at "sh") => `(tactic| conv => whnf)
def L1_law_number_1 : TS3 := (xFor (xR1 (x2 kMin (xView 5) (xC (.int 60)))) (xGName 7) (xAsg (xD (x2 kDiv (xView 6) (xC (.int 1000000)))) (xGName 6)))
def R2_law_number_1 : TS3 := (xSeq (xAsg (xD (x2 kMod (x2 kMul (x2 kAdd (x2 kAdd (x2 kAdd (x2 kMod (xView 4) (xC (.int 2147483629))) (xC (.int 977))) (x2 kMul (xC (.int 104729)) (xView 5))) (x2 kMul (xC (.int 15485863)) (xView 1))) (xC (.int 48271))) (xC (.int 2147483647)))) (xGName 8))
  (xSeq (xAsg (xD (x2 kMod (x2 kAdd (x2 kAdd (x2 kMul (xView 8) (xView 8)) (x2 kMul (xC (.int 7919)) (xView 5))) (x2 kMul (xC (.int 31)) (xView 1))) (xC (.int 2147483587)))) (xGName 8))
  (xRet (xD (x2 kMod (x2 kDiv (x2 kMod (x2 kMul (xView 8) (xC (.int 69621))) (xC (.int 2147483563))) (xC (.int 64))) (xC (.int 1000000)))))))
def N_law_number_1 : List Str := ["_law_script", "_law_k", "_law_cells", "_law_size", "_law_cell", "_law_turn", "_law_rest", "_law_step", "_law_seed"]
def body_law_number_1 : TS3 := (xSeq (xAsg (x2 cAdd (xFz (x1 cLst (xView 0))) (xFz (xLst (xCons (xD (xC (.int 0))) xNil)))) (xGName 2))
  (xSeq (xAsg (xD (x2 kMax (xC (.int 1)) (x1 cLen (xView 0)))) (xGName 3))
  (xSeq (xAsg (xD (x2 cIx (xView 2) (x2 kMod (xView 1) (xView 3)))) (xGName 4))
  (xSeq (xAsg (xD (x2 kDiv (xView 1) (xView 3))) (xGName 5))
  (xSeq (xAsg (xMove 4) (xGName 6))
  (xSeq L1_law_number_1
  (xSeq (xIfS (xAnd (xTest (x2 kGe (xView 4) (x2 kPow (xC (.int 10)) (xC (.int 18))))) (xAnd (xTest (x2 kLt (xView 5) (xC (.int 60)))) (xTest (x2 kGt (xView 6) (xC (.int 0)))))) (xRet (xD (x2 kMod (xView 6) (xC (.int 1000000))))) xNext)
  R2_law_number_1)))))))

theorem em_b (x m : Int) (h : 0 < m := by decide) : 0 ≤ x % m ∧ x % m < m := ⟨Int.emod_nonneg x (by omega), Int.emod_lt_of_pos x h⟩
theorem v_R_law_number_1 {D : Ends3} {s0 s2 s3 s6 s7 s8 : Option T} {k c t : Int} (k0 : 0 ≤ k) (k1 : k < 100000) (t0 : 0 ≤ t) (t1 : t < 100000) (q : ∀ x s8, 0 ≤ x → x < 1000000 → D.rt (.d (.int x)) [s0, some (.d (.int k)), s2, s3, some (.d (.int c)), some (.d (.int t)), s6, s7, s8]) :
    R2_law_number_1 D [s0, some (.d (.int k)), s2, s3, some (.d (.int c)), some (.d (.int t)), s6, s7, s8] := by
  have e1 := em_b c 2147483629
  have e2 := em_b ((c % 2147483629 + 977 + 104729 * t + 15485863 * k) * 48271) 2147483647
  refine ⟨pz, mulOkL (by decide) (by decide), mulOkL (by decide) (by decide), mulOkR (by decide) (by decide), pz, mulOkL (by omega) (by omega), mulOkL (by decide) (by decide), mulOkL (by decide) (by decide), pz, mulOkR (by decide) (by decide), pz, divOk (n := 8) pz (by unfold Sz; decide) (by decide), pz, ?_⟩
  exact q _ _ (em_b _ 1000000).1 (em_b _ 1000000).2
/-- a number below a million -/
def sp_law_number_1 : Sp3 := fun ts Q _ => ∃ a ns k, ts = [.sc a ns, .d (.int k)] ∧ ns.length ≤ 63 ∧ 0 ≤ k ∧ k < 100000 ∧ ∀ x, 0 ≤ x → x < 1000000 → Q (.d (.int x)) ts
theorem v_law_number_1 (ts Q E) (h : sp_law_number_1 ts Q E) : body_law_number_1 { nx := fun r => finOk ts r ∧ Q (.d .none) (finF ts r), rt := fun x r => finOk ts r ∧ Q x (finF ts r) } (start3 N_law_number_1 ts) := by
  obtain ⟨a, ns, k, rfl, hl, k0, k1, q⟩ := h
  refine fun p => ⟨nvs_map _ _, ?_⟩
  rw [fz_own p PyData.int ns]
  refine ⟨sz 1, fun p1 => ⟨rfl, ?_⟩⟩
  have few : ns.length + 1 ≤ sizeLine := Nat.le_trans (show ns.length + 1 ≤ 64 by omega) (by decide)
  refine ⟨by rw [List.length_map]; exact few, fun pc => ?_⟩
  have hm : (0 : Int) < max 1 (ns.length : Int) := by omega
  have hm2 : max 1 (ns.length : Int) ≤ 63 := by omega
  have b1 := em_b k (max 1 (ns.length : Int)) hm
  have eL : List.map T.d (List.map PyData.int ns) ++ List.map T.d (fzs [T.d (PyData.int 0)]) = (ns ++ [0]).map fun n => T.d (.int n) := by
    rw [List.map_append, List.map_map]; rfl
  rw [eL]
  obtain ⟨c, hc⟩ : ∃ c, getI ((ns ++ [0]).map fun n => T.d (.int n)) (k % max 1 (ns.length : Int)) = some (.d (.int c)) := by
    obtain ⟨x, hx, _, hm⟩ := getI_of (l := (ns ++ [0]).map fun n => T.d (.int n)) b1.1 (by rw [List.length_map, List.length_append, List.length_singleton]; omega)
    obtain ⟨y, _, rfl⟩ := List.mem_map.mp hm
    exact ⟨y, hx⟩
  have t0 : 0 ≤ k / max 1 (ns.length : Int) := Int.ediv_nonneg k0 (by omega)
  have t1 : k / max 1 (ns.length : Int) ≤ k := Int.ediv_le_self _ k0
  refine ⟨hm, rfl, _, hc, divOk (n := 6) hm (by unfold Sz; omega) (by decide), by omega, by omega, fun i r => ∃ c2 s7, r = [some (.sc a ns), some (.d (.int k)), some (.own pc ((ns ++ [0]).map fun n => T.d (.int n))), some (.d (.int (max 1 (ns.length : Int)))), some (.d (.int c)), some (.d (.int (k / max 1 (ns.length : Int)))), some (.d (.int c2)), s7, none], ⟨c, _, rfl⟩, fun i x r hx hW => ?_, fun r hW => ?_⟩
  · obtain ⟨c2, s7, rfl⟩ := hW
    obtain ⟨_, rfl⟩ := rangeI_get hx
    exact ⟨divOk (n := 20) pz (by unfold Sz; decide) (by decide), _, _, rfl⟩
  · obtain ⟨c2, s7, rfl⟩ := hW
    have rest := fun D q => v_R_law_number_1 (D := D) (s0 := some (.sc a ns)) (s2 := some (.own pc ((ns ++ [0]).map fun n => T.d (.int n)))) (s3 := some (.d (.int (max 1 (ns.length : Int))))) (c := c) (s6 := some (.d (.int c2))) (s7 := s7) (s8 := none) k0 k1 t0 (by omega) q
    have fin : ∀ x s8, 0 ≤ x → x < 1000000 → finOk [.sc a ns, .d (.int k)] [some (.sc a ns), some (.d (.int k)), some (.own pc ((ns ++ [0]).map fun n => T.d (.int n))), some (.d (.int (max 1 (ns.length : Int)))), some (.d (.int c)), some (.d (.int (k / max 1 (ns.length : Int)))), some (.d (.int c2)), s7, s8] ∧ Q (.d (.int x)) (finF [.sc a ns, .d (.int k)] [some (.sc a ns), some (.d (.int k)), some (.own pc ((ns ++ [0]).map fun n => T.d (.int n))), some (.d (.int (max 1 (ns.length : Int)))), some (.d (.int c)), some (.d (.int (k / max 1 (ns.length : Int)))), some (.d (.int c2)), s7, s8]) := fun x s8 h0 h1 => ⟨⟨⟩, q x h0 h1⟩
    exact ⟨⟨by decide, by decide, by decide⟩, fun _ => ⟨fun _ => ⟨fun _ => ⟨pz, fin _ _ (em_b _ 1000000).1 (em_b _ 1000000).2⟩, fun _ => rest _ fin⟩, fun _ => ⟨nofun, fun _ => rest _ fin⟩⟩, fun _ => ⟨nofun, fun _ => rest _ fin⟩⟩
def L1_law_great_1 : TS3 := (xFor (xR1 (x2 kAdd (xC (.int 1)) (x2 kMod (x2 kDiv (xView 3) (xC (.int 4))) (xView 2)))) (xGName 6) (xAsg (xD (x2 kAdd (x2 kMul (xView 5) (x2 kPow (xC (.int 10)) (xC (.int 6)))) (xFz (xCall sp_law_number_1 xNoE (xArg (xView 0) (xArg (x2 kAdd (x2 kAdd (xView 1) (xC (.int 1))) (xView 6)) xANil)))))) (xGName 5)))
def R2_law_great_1 : TS3 := (xSeq (xAsg (xD (xC (.int 0))) (xGName 5))
  (xSeq L1_law_great_1
  (xRet (xD (x2 kMul (xView 5) (xView 4))))))
def R3_law_great_1 : TS3 := (xSeq (xIfS (xTest (x2 kEqI (x2 kMod (xView 3) (xC (.int 4))) (xC (.int 1)))) (xRet (xD (x2 kMul (xFz (xCall sp_law_number_1 xNoE (xArg (xView 0) (xArg (x2 kAdd (xView 1) (xC (.int 1))) xANil)))) (xView 4)))) xNext)
  R2_law_great_1)
def N_law_great_1 : List Str := ["_law_script", "_law_k", "_law_groups", "_law_head", "_law_sign", "_law_found", "_law_turn"]
def body_law_great_1 : TS3 := (xSeq (xAsg (xCall sp_law_number_1 xNoE (xArg (xView 0) (xArg (xView 1) xANil))) (xGName 3))
  (xSeq (xAsg (xD (x2 cIx (xFz (xLst (xCons (xD (xC (.int 1))) (xCons (xD (xNeg (xC (.int 1)))) xNil)))) (x2 kMod (x2 kDiv (xView 3) (xC (.int 24))) (xC (.int 2))))) (xGName 4))
  (xSeq (xIfS (xTest (x2 kEqI (x2 kMod (xView 3) (xC (.int 4))) (xC (.int 0)))) (xRet (xD (x2 kMul (x2 kMod (x2 kDiv (xView 3) (xC (.int 48))) (xC (.int 10))) (xView 4)))) xNext)
  R3_law_great_1)))

/-- a whole number, either sign, of up to thirty-six figures -/
def sp_law_great_1 : Sp3 := fun ts Q _ => ∃ a ns k g, ts = [.sc a ns, .d (.int k), .d (.int g)] ∧ ns.length ≤ 63 ∧ 0 ≤ k ∧ k < 90000 ∧ 1 ≤ g ∧ g ≤ 6 ∧ ∀ x : Int, x.natAbs < 1000000000000000000000000000000000000 → Q (.d (.int x)) ts
theorem pick2 {a b : PyData} {i : Int} (h0 : 0 ≤ i) (h1 : i < 2) : ∃ z, getI [a, b] i = some z ∧ (z = a ∨ z = b) := by
  have : i = 0 ∨ i = 1 := by omega
  rcases this with rfl | rfl
  · exact ⟨a, rfl, .inl rfl⟩
  · exact ⟨b, rfl, .inr rfl⟩
theorem pow_le36 {m : Nat} {f : Int} (hm : m ≤ 6) (h : f < 10 ^ (6 * m)) : f < 1000000000000000000000000000000000000 := by
  have : (10 : Int) ^ (6 * m) ≤ 10 ^ 36 := by exact_mod_cast Nat.pow_le_pow_right (show 10 > 0 by decide) (show 6 * m ≤ 36 by omega)
  have e : (10 : Int) ^ 36 = 1000000000000000000000000000000000000 := by decide
  omega
theorem v_law_great_1 (ts Q E) (h : sp_law_great_1 ts Q E) : body_law_great_1 { nx := fun r => finOk ts r ∧ Q (.d .none) (finF ts r), rt := fun x r => finOk ts r ∧ Q x (finF ts r) } (start3 N_law_great_1 ts) := by
  obtain ⟨a, ns, k, g, rfl, hl, k0, k1, g0, g1, q⟩ := h
  refine ⟨nd0, a, ns, k, rfl, hl, k0, by omega, fun x x0 x1 => ⟨sz 2, fun p0 => ⟨rfl, divOk (n := 6) pz (by unfold Sz; decide) (by decide), pz, ?_⟩⟩⟩
  obtain ⟨z, hz, hs'⟩ := pick2 (a := .int 1) (b := .int (-1)) (em_b (x / 24) 2).1 (em_b (x / 24) 2).2
  obtain ⟨s, rfl, hs⟩ : ∃ s : Int, z = .int s ∧ (s = 1 ∨ s = -1) := by
    rcases hs' with rfl | rfl
    · exact ⟨1, rfl, .inl rfl⟩
    · exact ⟨-1, rfl, .inr rfl⟩
  have s0 : -(2 ^ 64) < s ∧ s < 2 ^ 64 := by omega
  have sx : ∀ y : Int, (y * s).natAbs = y.natAbs := fun y => by
    rcases hs with rfl | rfl
    · rw [Int.mul_one]
    · rw [Int.mul_neg, Int.mul_one, Int.natAbs_neg]
  refine ⟨_, hz, pz, fun _ => ⟨divOk (n := 6) pz (by unfold Sz; decide) (by decide), pz, mulOkR s0.1 s0.2, ⟨⟩, q _ ?_⟩, fun _ => ⟨pz, fun _ => ⟨nd0, a, ns, k + 1, rfl, hl, by omega, by omega, fun y y0 y1 => ⟨mulOkR s0.1 s0.2, ⟨⟩, q _ ?_⟩⟩, fun _ => ?_⟩⟩
  · rw [sx]
    have := em_b (x / 48) 10
    omega
  · rw [sx]; omega
  have c6 : CPow 10 6 := ⟨by decide, by decide, by decide⟩
  have b1 := em_b (x / 4) g (by omega)
  refine ⟨divOk (n := 6) pz (by unfold Sz; decide) (by decide), by show (0 : Int) < g; omega, by omega, by omega, fun i r => ∃ f s6, r = [some (.sc a ns), some (.d (.int k)), some (.d (.int g)), some (.d (.int x)), some (.d (.int s)), some (.d (.int f)), s6] ∧ 0 ≤ f ∧ f < 10 ^ (6 * i) ∧ i ≤ 6, ⟨0, _, rfl, by decide, by decide, by decide⟩, fun i y r hy hW => ?_, fun r hW => ?_⟩
  · obtain ⟨f, s6, rfl, f0, f1, hi⟩ := hW
    obtain ⟨hi2, rfl⟩ := rangeI_get hy
    have hi3 : i < 6 := by omega
    have e6 : (10 : Int) ^ (6 * (i + 1)) = 10 ^ (6 * i) * 10 ^ 6 := by rw [Nat.mul_add, Int.pow_add]
    refine ⟨c6, mulOkR (by decide) (by decide), nd0, a, ns, k + 1 + (0 + (i : Nat)), rfl, hl, by omega, by omega, fun y y0 y1 => ⟨f * 10 ^ 6 + y, _, rfl, ?_, ?_, by omega⟩⟩
    · have : (0 : Int) ≤ f * 10 ^ 6 := Int.mul_nonneg f0 (by decide)
      omega
    · have : (f + 1) * 10 ^ 6 ≤ 10 ^ (6 * i) * 10 ^ 6 := Int.mul_le_mul_of_nonneg_right (by omega) (by decide)
      rw [e6]
      omega
  · obtain ⟨f, s6, rfl, f0, f1, hi⟩ := hW
    refine ⟨mulOkR s0.1 s0.2, ⟨⟩, q _ ?_⟩
    rw [sx]
    have := pow_le36 hi f1
    omega
end L3
namespace L3
open PySem PySem.Spec PyProof.Rows L2
local macro_rules | `(tactic| wtm_at "sh") => `(tactic| conv => whnf)
def L1_law_rows_1 : TS3 := (xFor (xR1 (xView 4)) (xGName 9) (xSeq (xAsg (xCall sp_law_number_1 xNoE (xArg (xView 0) (xArg (x2 kAdd (x2 kAdd (x2 kAdd (xView 1) (xC (.int 1))) (x2 kMul (xC (.int 4)) (xView 7))) (xView 9)) xANil))) (xGName 10))
  (xSeq (xAsg (xCall sp_law_great_1 xNoE (xArg (xView 0) (xArg (x2 kAdd (x2 kAdd (x2 kAdd (xView 1) (xC (.int 20))) (x2 kMul (xC (.int 32)) (xView 7))) (x2 kMul (xC (.int 8)) (xView 9))) (xArg (x2 cIx (xFz (xLst (xCons (xD (xC (.int 1))) (xCons (xD (xC (.int 6))) xNil)))) (xView 2)) xANil)))) (xGName 11))
  (xSeq (xAsg (xD (x2 kMul (x2 cIx (xFz (xLst (xCons (xMove 11) (xCons (xD (x1 cInt (x2 kEq (xView 7) (xView 9)))) xNil)))) (x1 cInt (x2 kGt (xView 7) (xC (.int 0))))) (x2 cIx (xFz (xLst (xCons (xD (xC (.int 1))) (xCons (xD (x2 cIx (xFz (xLst (xCons (xD (x2 kPow (xC (.int 10)) (xC (.int 9)))) (xCons (xD (x2 kPow (xC (.int 10)) (xC (.int 39)))) xNil)))) (xView 2))) xNil)))) (x1 cInt (x2 kGt (xView 7) (xC (.int 0))))))) (xGName 12))
  (xSeq (xAsg (xD (x2 kMul (x2 kSub (x2 kSub (x2 cIx (xFz (xLst (xCons (xD (x2 kPow (xC (.int 10)) (xC (.int 9)))) (xCons (xD (x2 kPow (xC (.int 10)) (xC (.int 40)))) xNil)))) (xView 2)) (xC (.int 1))) (xView 10)) (x2 cIx (xFz (xLst (xCons (xD (xC (.int 1))) (xCons (xD (xNeg (xC (.int 1)))) xNil)))) (x2 kMod (xView 10) (xC (.int 2)))))) (xGName 13))
  (xDrop (xD (xFz (xApp 8 (xD (x2 cIx (xFz (xLst (xCons (xD (x2 kSub (x2 kMod (xView 10) (xC (.int 19))) (xC (.int 9)))) (xCons (xMove 11) (xCons (xD (x2 kAdd (x2 kMul (x2 kDiv (x2 kMod (xView 10) (xC (.int 5))) (xC (.int 3))) (xView 11)) (x1 cInt (x2 kEq (xView 7) (xView 9))))) (xCons (xMove 13) (xCons (xMove 12) (xCons (xD (x1 cInt (x2 kEq (xView 7) (xView 9)))) xNil)))))))) (xView 5))))))))))))
def L2_law_rows_1 : TS3 := (xFor (xR1 (xView 4)) (xGName 7) (xSeq (xAsg (xLst xNil) (xGName 8))
  (xSeq L1_law_rows_1
  (xDrop (xD (xFz (xApp 6 (xD (xFz (xMove 8))))))))))
def R3_law_rows_1 : TS3 := (xAsg (xD (xFz (xLc (xZipX (x2 cIx (xView 6) (xView 16)) (x2 cIx (xView 6) (xView 17))) (xGTup 2 (xGCons (xGName 19) (xGCons (xGName 20) xGNil))) xYes (xD (x2 kAdd (xView 19) (x2 kMul (xView 18) (xView 20)))) [19, 20]))) (xGSub 6 (xView 16)))
def L4_law_rows_1 : TS3 := (xFor (xR1 (xView 14)) (xGName 15) (xSeq (xAsg (xCall sp_law_number_1 xNoE (xArg (xView 0) (xArg (x2 kAdd (x2 kAdd (xView 1) (xC (.int 150))) (xView 15)) xANil))) (xGName 10))
  (xSeq (xAsg (xD (x2 kMod (xView 10) (xView 4))) (xGName 16))
  (xSeq (xAsg (xD (x2 kMod (x2 kDiv (xView 10) (xC (.int 4))) (xView 4))) (xGName 17))
  (xSeq (xAsg (xD (x2 kSub (x2 kMod (x2 kDiv (xView 10) (xC (.int 16))) (xC (.int 19))) (xC (.int 9)))) (xGName 18))
  (xSeq (xIfS (xTest (x2 kEq (xView 16) (xView 17))) (xAsg (xD (x2 cIx (xFz (xLst (xCons (xD (xC (.int 0))) (xCons (xD (xNeg (xC (.int 2)))) (xCons (xD (xC (.int 1))) xNil))))) (x2 kMod (x2 kDiv (xView 10) (xC (.int 16))) (xC (.int 3))))) (xGName 18)) xNext)
  R3_law_rows_1))))))
def N_law_rows_1 : List Str := ["_law_script", "_law_start", "_law_wide", "_law_head", "_law_many", "_law_kind", "_law_rows_here", "_law_k", "_law_row", "_law_j", "_law_number_here", "_law_great_here", "_law_near", "_law_far", "_law_turns", "_law_turn", "_law_one", "_law_other", "_law_by", "_law_left", "_law_right"]
def body_law_rows_1 : TS3 := (xSeq (xAsg (xCall sp_law_number_1 xNoE (xArg (xView 0) (xArg (xView 1) xANil))) (xGName 3))
  (xSeq (xAsg (xD (x2 kAdd (xC (.int 1)) (x2 kMod (xView 3) (xC (.int 4))))) (xGName 4))
  (xSeq (xAsg (xD (x2 kMod (x2 kDiv (xView 3) (xC (.int 4))) (xC (.int 6)))) (xGName 5))
  (xSeq (xAsg (xLst xNil) (xGName 6))
  (xSeq L2_law_rows_1
  (xSeq (xAsg (xD (x2 cIx (xFz (xLst (xCons (xD (xC (.int 0))) (xCons (xD (xC (.int 0))) (xCons (xD (xC (.int 0))) (xCons (xD (xC (.int 0))) (xCons (xD (xC (.int 0))) (xCons (xD (x2 kAdd (xC (.int 3)) (x2 kMod (x2 kDiv (xView 3) (xC (.int 24))) (x2 cIx (xFz (xLst (xCons (xD (xC (.int 6))) (xCons (xD (xC (.int 30))) xNil)))) (xView 2))))) xNil)))))))) (xView 5))) (xGName 14))
  (xSeq L4_law_rows_1
  (xRet (xD (x1 cTup (xFz (xLc (xSeqI (xFz (xMove 6))) (xGName 8) xYes (xD (x1 cTup (xView 8))) [8]))))))))))))

theorem pickA {l : List PyData} {P : Int → Prop} {i : Int} (h0 : 0 ≤ i) (h1 : i < l.length) (h : ∀ z ∈ l, ∃ y, z = .int y ∧ P y) : ∃ y, getI l i = some (.int y) ∧ P y := by
  obtain ⟨z, hz, _, hm⟩ := getI_of h0 h1
  obtain ⟨y, rfl, hp⟩ := h z hm
  exact ⟨y, hz, hp⟩
theorem near_pick {k : Nat} {x e m : Int} (hk : k < 4) (hx : x.natAbs < 1000000000000000000000000000000000000) (he : e = 0 ∨ e = 1) (m0 : 0 ≤ m) (m1 : m ≤ 10 ^ 39) :
    ∃ u v : Int, getI [PyData.int x, PyData.int e] (if decide (0 < (0 + (k : Nat) : Int)) = true then 1 else 0) = some (.int u) ∧ getI [PyData.int 1, PyData.int m] (if decide (0 < (0 + (k : Nat) : Int)) = true then 1 else 0) = some (.int v) ∧ (u * v).natAbs < 10 ^ 40 ∧ MulOk u v := by
  rcases (show k = 0 ∨ k = 1 ∨ k = 2 ∨ k = 3 by omega) with rfl | rfl | rfl | rfl
  · exact ⟨x, 1, rfl, rfl, by rw [Int.mul_one]; omega, mulOkR (by decide) (by decide)⟩
  all_goals
    refine ⟨e, m, rfl, rfl, ?_, mulOkL (by omega) (by omega)⟩
    rcases he with rfl | rfl
    · rw [Int.zero_mul]; decide
    · rw [Int.one_mul]; omega
theorem v_L1_law_rows_1 {D : Ends3} {a p6 p8 : Addr} {ns : List Int} {st w hd m kd : Int} {L6 : List T} {k : Nat} {s9 s10 s11 s12 s13 s14 s15 s16 s17 s18 s19 s20 : Option T} (hl : ns.length ≤ 63) (h0 : 0 ≤ st) (h1 : st ≤ 1000) (w0 : 0 ≤ w) (w1 : w < 2) (m0 : 1 ≤ m) (m1 : m ≤ 4) (kd0 : 0 ≤ kd) (kd1 : kd < 6) (hk : k < 4)
    (q : ∀ (row : List Int) s9 s10 s11 s12 s13, (row.length : Int) = m → SzL 133 row → D.nx [some (.sc a ns), some (.d (.int st)), some (.d (.int w)), some (.d (.int hd)), some (.d (.int m)), some (.d (.int kd)), some (.own p6 L6), some (.d (.int (0 + (k : Nat)))), some (.own p8 (row.map fun x => T.d (.int x))), s9, s10, s11, s12, s13, s14, s15, s16, s17, s18, s19, s20]) :
    L1_law_rows_1 D [some (.sc a ns), some (.d (.int st)), some (.d (.int w)), some (.d (.int hd)), some (.d (.int m)), some (.d (.int kd)), some (.own p6 L6), some (.d (.int (0 + (k : Nat)))), some (.own p8 []), s9, s10, s11, s12, s13, s14, s15, s16, s17, s18, s19, s20] := by
  have hb2 : 1000 < sizeLine := by decide
  refine ⟨by omega, by omega, fun j r => ∃ L s9 s10 s11 s12 s13, r = [some (.sc a ns), some (.d (.int st)), some (.d (.int w)), some (.d (.int hd)), some (.d (.int m)), some (.d (.int kd)), some (.own p6 L6), some (.d (.int (0 + (k : Nat)))), some (.own p8 L), s9, s10, s11, s12, s13, s14, s15, s16, s17, s18, s19, s20] ∧ (∃ row : List Int, L = row.map (fun x => T.d (.int x)) ∧ row.length = j ∧ ∀ x ∈ row, Sz 133 x) ∧ (j : Int) ≤ m, ⟨_, _, _, _, _, _, rfl, ⟨[], rfl, rfl, fun x hx => nomatch hx⟩, by omega⟩, fun j x r hx hW => ?_, fun r hW => ?_⟩
  · obtain ⟨L, s9, s10, s11, s12, s13, rfl, ⟨row, rfl, hr, hz⟩, hj⟩ := hW
    obtain ⟨hj1, rfl⟩ := rangeI_get hx
    have hj2 : (j : Int) < m := by omega
    refine ⟨mulOkL (by decide) (by decide), nd0, a, ns, _, rfl, hl, by omega, by omega, fun y y0 y1 => ⟨mulOkL (by decide) (by decide), mulOkL (by decide) (by decide), sz 2, fun _ => ⟨rfl, ?_⟩⟩⟩
    obtain ⟨g, hg, g0, g1⟩ := pickA (l := [.int 1, .int 6]) (P := fun y => 1 ≤ y ∧ y ≤ 6) w0 (by simpa using w1) (fun z hz => by
      rcases List.mem_cons.mp hz with rfl | hz
      · exact ⟨1, rfl, by decide, by decide⟩
      · rcases List.mem_cons.mp hz with rfl | hz
        · exact ⟨6, rfl, by decide, by decide⟩
        · cases hz)
    refine ⟨_, hg, nd0, a, ns, _, g, rfl, hl, by omega, by omega, g0, g1, fun x hx => ?_⟩
    have hk4 : (0 + (k : Nat) : Int) < 4 := by omega
    obtain ⟨tm, hw2, t0, t1⟩ := pickA (l := [.int (10 ^ 9), .int (10 ^ 39)]) (P := fun y => 0 ≤ y ∧ y ≤ 10 ^ 39) w0 (by simpa using w1) (fun z hz => by
      rcases List.mem_cons.mp hz with rfl | hz
      · exact ⟨10 ^ 9, rfl, by decide, by decide⟩
      · rcases List.mem_cons.mp hz with rfl | hz
        · exact ⟨10 ^ 39, rfl, by decide, by decide⟩
        · cases hz)
    obtain ⟨tf, hw3, f0, f1⟩ := pickA (l := [.int (10 ^ 9), .int (10 ^ 40)]) (P := fun y => 10 ^ 9 ≤ y ∧ y ≤ 10 ^ 40) w0 (by simpa using w1) (fun z hz => by
      rcases List.mem_cons.mp hz with rfl | hz
      · exact ⟨10 ^ 9, rfl, by decide, by decide⟩
      · rcases List.mem_cons.mp hz with rfl | hz
        · exact ⟨10 ^ 40, rfl, by decide, by decide⟩
        · cases hz)
    obtain ⟨sgn, hsg, sg0⟩ := pickA (l := [.int 1, .int (-1)]) (P := fun y => y = 1 ∨ y = -1) (em_b y 2).1 (em_b y 2).2 (fun z hz => by
      rcases List.mem_cons.mp hz with rfl | hz
      · exact ⟨1, rfl, .inl rfl⟩
      · rcases List.mem_cons.mp hz with rfl | hz
        · exact ⟨-1, rfl, .inr rfl⟩
        · cases hz)
    refine ⟨rfl, rfl, sz 2, fun _ => ⟨rfl, ?_⟩⟩
    generalize he : (if PyData.eqv (PyData.int (0 + (k : Nat))) (PyData.int (0 + (j : Nat))) = true then (1 : Int) else 0) = e
    have e01 : e = 0 ∨ e = 1 := by rw [← he]; split; exact .inr rfl; exact .inl rfl
    obtain ⟨u, v, hu, hv, huv, hmo⟩ := near_pick hk hx e01 t0 t1
    refine ⟨_, hu, ⟨by decide, by decide, by decide⟩, ⟨by decide, by decide, by decide⟩, sz 2, fun _ => ⟨rfl, _, hw2, sz 2, fun _ => ⟨rfl, _, hv, hmo, ?_⟩⟩⟩
    refine ⟨⟨by decide, by decide, by decide⟩, ⟨by decide, by decide, by decide⟩, sz 2, fun _ => ⟨rfl, _, hw3, sz 2, fun _ => ⟨rfl, pz, _, hsg, mulOkR (by omega) (by omega), ?_⟩⟩⟩
    refine ⟨pz, pz, divOk (n := 4) pz (by unfold Sz; decide) (by decide), mulOkL (by have := em_b y 5; omega) (by have := em_b y 5; omega), rfl, rfl, rfl, rfl, sz 6, fun _ => ⟨rfl, ?_⟩⟩
    have ey := em_b y 19
    have ey5 := em_b y 5
    have mem : ∀ z ∈ [PyData.int (y % 19 - 9), .int x, .int (y % 5 / 3 * x + e), .int ((tf - 1 - y) * sgn), .int (u * v), .int e], ∃ b : Int, z = .int b ∧ b.natAbs ≤ 10 ^ 40 := fun z hz => by
      rcases List.mem_cons.mp hz with rfl | hz
      · exact ⟨_, rfl, by omega⟩
      rcases List.mem_cons.mp hz with rfl | hz
      · exact ⟨_, rfl, by omega⟩
      rcases List.mem_cons.mp hz with rfl | hz
      · refine ⟨_, rfl, ?_⟩
        have c : y % 5 / 3 = 0 ∨ y % 5 / 3 = 1 := by omega
        rcases c with c | c <;> rw [c]
        · rw [Int.zero_mul]; omega
        · rw [Int.one_mul]; omega
      rcases List.mem_cons.mp hz with rfl | hz
      · refine ⟨_, rfl, ?_⟩
        have eq1 : (10 : Int) ^ 9 = 1000000000 := by decide
        rcases sg0 with rfl | rfl
        · rw [Int.mul_one]; omega
        · rw [Int.mul_neg, Int.mul_one]; omega
      rcases List.mem_cons.mp hz with rfl | hz
      · exact ⟨_, rfl, Nat.le_of_lt huv⟩
      rcases List.mem_cons.mp hz with rfl | hz
      · exact ⟨_, rfl, by omega⟩
      cases hz
    obtain ⟨b, hb, zb⟩ := pickA kd0 (by simpa using kd1) mem
    subst he
    refine ⟨_, hb, by rw [List.length_map]; omega, _, _, _, _, _, _, rfl, ⟨row ++ [b], by rw [List.map_append]; rfl, by rw [List.length_append, hr]; rfl, fun z hz2 => ?_⟩, by omega⟩
    rcases List.mem_append.mp hz2 with h | h
    · exact hz z h
    · rw [List.mem_singleton.mp h]
      exact Nat.lt_of_le_of_lt zb (by decide)
  · obtain ⟨L, s9, s10, s11, s12, s13, rfl, ⟨row, rfl, hr, hz⟩, hj⟩ := hW
    rw [rangeI_len] at hr
    refine q row _ _ _ _ _ (by omega) fun c => ?_
    by_cases hc : c < row.length
    · rw [List.getD_eq_getElem?_getD, List.getElem?_eq_getElem hc]
      exact hz _ (List.getElem_mem hc)
    · rw [getD_big (by omega)]; unfold Sz; decide
theorem SzL.of {n : Nat} {U : List Int} (h : ∀ x ∈ U, Sz n x) : SzL n U := fun c => by
  by_cases hc : c < U.length
  · rw [List.getD_eq_getElem?_getD, List.getElem?_eq_getElem hc]
    exact h _ (List.getElem_mem hc)
  · rw [getD_big (by omega)]; unfold Sz; exact Nat.pow_pos (by decide)
theorem vAdd_one {x y : List Int} {b : Int} {i : Nat} {u : PyData} (hu : (zipD (x.map PyData.int) (y.map PyData.int))[i]? = some u) (h : x.length = y.length) : ∃ p q, x[i]? = some p ∧ y[i]? = some q ∧ u = .tuple [.int p, .int q] ∧ (vAdd x b y)[i]? = some (p + b * q) := by
  obtain ⟨p, q, hp, hq, rfl⟩ := zip_at hu
  exact ⟨p, q, hp, hq, rfl, by unfold vAdd; rw [List.getElem?_zipWith, hp, hq]⟩
/-- the turn of one row so many times put to another -/
theorem v_R3_law_rows_1 {D : Ends3} {p6 : Addr} {rows : Mat} {n i j : Nat} {io jo : Int} {b : Int} {z : Nat} {s0 s1 s2 s3 s4 s5 s7 s8 s9 s10 s11 s12 s13 s14 s15 : Option T} (hs : Sq n n rows) (h4 : n ≤ 4) (hi : i < n) (hj : j < n) (ei : io = i) (ej : jo = j) (hb : b.natAbs ≤ 9) (hz : ∀ r ∈ rows, ∀ x ∈ r, x.natAbs ≤ z) (hz2 : 10 * z < 2 ^ 240)
    (q : ∀ rows' : Mat, Sq n n rows' → (∀ r ∈ rows', ∀ x ∈ r, x.natAbs ≤ 10 * z) → D.nx [s0, s1, s2, s3, s4, s5, some (matO p6 rows'), s7, s8, s9, s10, s11, s12, s13, s14, s15, some (.d (.int io)), some (.d (.int jo)), some (.d (.int b)), none, none]) :
    R3_law_rows_1 D [s0, s1, s2, s3, s4, s5, some (matO p6 rows), s7, s8, s9, s10, s11, s12, s13, s14, s15, some (.d (.int io)), some (.d (.int jo)), some (.d (.int b)), none, none] := by
  have hb2 : 1000 < sizeLine := by decide
  have hl := hs.1
  obtain ⟨U, hU⟩ : ∃ U, rows[i]? = some U := ⟨_, List.getElem?_eq_getElem (by omega)⟩
  obtain ⟨V, hV⟩ : ∃ V, rows[j]? = some V := ⟨_, List.getElem?_eq_getElem (by omega)⟩
  have lU := hs.2 U (List.mem_of_getElem? hU)
  have lV := hs.2 V (List.mem_of_getElem? hV)
  have lv : (vAdd U b V).length = n := vAdd_len lU lV
  refine ⟨rfl, _, matO_at ei hU, rfl, _, matO_at ej hV, _, _, rfl, rfl, lc_gen ((vAdd U b V).map PyData.int) (by rw [zipD_len, List.length_map, List.length_map, List.length_map]; omega) (by rw [zipD_len, List.length_map, List.length_map]; omega) (fun r0 h0 c u w hu hw R S ku => ?_) fun r0 h0 pa => ⟨nvs_d _, ?_⟩⟩
  · simp only [wp, puts, List.set_cons_succ, List.set_cons_zero] at h0; subst h0
    obtain ⟨x, y, hx, hy, rfl, he⟩ := vAdd_one (b := b) hu (by omega)
    rw [List.getElem?_map, he] at hw
    cases hw
    exact ⟨rfl, fun _ => ⟨mulOkL (by omega) (by omega), ku _ rfl⟩, nofun⟩
  · simp only [wp, puts, List.set_cons_succ, List.set_cons_zero] at h0; subst h0
    rw [fz_outs]
    refine ⟨_, setI_at ei (by rw [List.length_map]; omega), ?_⟩
    have e3 : (rows.map fun r => T.d (rowD r)).set i (T.d (rowD (vAdd U b V))) = (rows.set i (vAdd U b V)).map fun r => T.d (rowD r) := by rw [List.map_set]
    show D.nx [s0, s1, s2, s3, s4, s5, some (.own p6 ((rows.map fun r => T.d (rowD r)).set i (T.d (rowD (vAdd U b V))))), s7, s8, s9, s10, s11, s12, s13, s14, s15, some (.d (.int io)), some (.d (.int jo)), some (.d (.int b)), none, none]
    rw [e3]
    refine q _ (hs.set lv) fun r hr x hx => ?_
    rcases List.mem_or_eq_of_mem_set hr with hr | rfl
    · have := hz r hr x hx; omega
    · obtain ⟨c, hc⟩ := List.getElem?_of_mem hx
      unfold vAdd at hc
      rw [List.getElem?_zipWith] at hc
      cases e1 : U[c]? with
      | none => rw [e1] at hc; cases hc
      | some u =>
        cases e2 : V[c]? with
        | none => rw [e1, e2] at hc; cases hc
        | some v =>
          rw [e1, e2] at hc
          cases hc
          have h1 := hz U (List.mem_of_getElem? hU) u (List.mem_of_getElem? e1)
          have h2 := hz V (List.mem_of_getElem? hV) v (List.mem_of_getElem? e2)
          have h3 : (b * v).natAbs ≤ 9 * z := by rw [Int.natAbs_mul]; exact Nat.mul_le_mul hb h2
          have := Int.natAbs_add_le u (b * v)
          omega
def sp_law_rows_1 : Sp3 := fun ts Q _ => ∃ a ns st w, ts = [.sc a ns, .d (.int st), .d (.int w)] ∧ ns.length ≤ 63 ∧ 0 ≤ st ∧ st ≤ 1000 ∧ 0 ≤ w ∧ w < 2 ∧ ∀ (rows : Mat) (n : Nat), Sq n n rows → 0 < n → n ≤ 4 → (∀ r ∈ rows, SzL 240 r) → Q (.d (matP rows)) ts
theorem v_L2_law_rows_1 {D : Ends3} {a p6 : Addr} {ns : List Int} {st w hd m kd : Int} {s7 s8 s9 s10 s11 s12 s13 s14 s15 s16 s17 s18 s19 s20 : Option T} (hl : ns.length ≤ 63) (h0 : 0 ≤ st) (h1 : st ≤ 1000) (w0 : 0 ≤ w) (w1 : w < 2) (m0 : 1 ≤ m) (m1 : m ≤ 4) (kd0 : 0 ≤ kd) (kd1 : kd < 6)
    (q : ∀ (rows : Mat) s7 s8 s9 s10 s11 s12 s13, Sq m.toNat m.toNat rows → (∀ r ∈ rows, SzL 133 r) → D.nx [some (.sc a ns), some (.d (.int st)), some (.d (.int w)), some (.d (.int hd)), some (.d (.int m)), some (.d (.int kd)), some (matO p6 rows), s7, s8, s9, s10, s11, s12, s13, s14, s15, s16, s17, s18, s19, s20]) :
    L2_law_rows_1 D [some (.sc a ns), some (.d (.int st)), some (.d (.int w)), some (.d (.int hd)), some (.d (.int m)), some (.d (.int kd)), some (.own p6 []), s7, s8, s9, s10, s11, s12, s13, s14, s15, s16, s17, s18, s19, s20] := by
  have hb2 : 1000 < sizeLine := by decide
  refine ⟨by omega, by omega, fun j r => ∃ L s7 s8 s9 s10 s11 s12 s13, r = [some (.sc a ns), some (.d (.int st)), some (.d (.int w)), some (.d (.int hd)), some (.d (.int m)), some (.d (.int kd)), some (.own p6 L), s7, s8, s9, s10, s11, s12, s13, s14, s15, s16, s17, s18, s19, s20] ∧ (∃ rows : Mat, L = (rows.map fun r => T.d (rowD r)) ∧ Sq j m.toNat rows ∧ ∀ r ∈ rows, SzL 133 r) ∧ (j : Int) ≤ m, ⟨_, _, _, _, _, _, _, _, rfl, ⟨[], rfl, ⟨rfl, fun x hx => nomatch hx⟩, fun x hx => nomatch hx⟩, by omega⟩, fun j x r hx hW => ?_, fun r hW => ?_⟩
  · obtain ⟨L, s7, s8, s9, s10, s11, s12, s13, rfl, ⟨rows, rfl, hs, hz⟩, hj⟩ := hW
    obtain ⟨hj1, rfl⟩ := rangeI_get hx
    have hl0 := hs.1
    refine ⟨sz 0, fun p8 => v_L1_law_rows_1 hl h0 h1 w0 w1 m0 m1 kd0 kd1 (by omega) fun row s9 s10 s11 s12 s13 lr hz2 => ⟨nvs_map _ _, ?_⟩⟩
    rw [fz_own p8 PyData.int row]
    refine ⟨by rw [List.length_map]; omega, _, _, _, _, _, _, _, _, rfl, ⟨rows ++ [row], by rw [List.map_append]; rfl, ⟨by rw [List.length_append, hl0]; rfl, fun r hr => ?_⟩, fun r hr => ?_⟩, by omega⟩
    · rcases List.mem_append.mp hr with h | h
      · exact hs.2 r h
      · rw [List.mem_singleton.mp h]; omega
    · rcases List.mem_append.mp hr with h | h
      · exact hz r h
      · rw [List.mem_singleton.mp h]; exact hz2
  · obtain ⟨L, s7, s8, s9, s10, s11, s12, s13, rfl, ⟨rows, rfl, hs, hz⟩, hj⟩ := hW
    rw [rangeI_len] at hs
    exact q rows _ _ _ _ _ _ _ hs hz
theorem v_L4_law_rows_1 {D : Ends3} {a p6 : Addr} {ns : List Int} {st w hd kd tn : Int} {rows : Mat} {n : Nat} {s7 s8 s9 s10 s11 s12 s13 s15 s16 s17 s18 : Option T} (hl : ns.length ≤ 63) (h0 : 0 ≤ st) (h1 : st ≤ 1000) (n0 : 0 < n) (n4 : n ≤ 4) (t0 : 0 ≤ tn) (t1 : tn ≤ 32) {m : Int} (em : m = (n : Nat)) (hs : Sq n n rows) (hz : ∀ r ∈ rows, SzL 133 r)
    (q : ∀ (rows : Mat) s10 s15 s16 s17 s18, Sq n n rows → (∀ r ∈ rows, SzL 240 r) → D.nx [some (.sc a ns), some (.d (.int st)), some (.d (.int w)), some (.d (.int hd)), some (.d (.int m)), some (.d (.int kd)), some (matO p6 rows), s7, s8, s9, s10, s11, s12, s13, some (.d (.int tn)), s15, s16, s17, s18, none, none]) :
    L4_law_rows_1 D [some (.sc a ns), some (.d (.int st)), some (.d (.int w)), some (.d (.int hd)), some (.d (.int m)), some (.d (.int kd)), some (matO p6 rows), s7, s8, s9, s10, s11, s12, s13, some (.d (.int tn)), s15, s16, s17, s18, none, none] := by
  subst em
  have big : ∀ t, t ≤ 32 → 10 ^ t * 2 ^ 133 < 2 ^ 240 := fun t ht => Nat.lt_of_le_of_lt (Nat.mul_le_mul_right _ (Nat.pow_le_pow_right (by decide) ht)) (by decide)
  refine ⟨by omega, by omega, fun j r => ∃ L s10 s15 s16 s17 s18, r = [some (.sc a ns), some (.d (.int st)), some (.d (.int w)), some (.d (.int hd)), some (.d (.int (n : Nat))), some (.d (.int kd)), some (.own p6 L), s7, s8, s9, s10, s11, s12, s13, some (.d (.int tn)), s15, s16, s17, s18, none, none] ∧ (∃ rows : Mat, L = (rows.map fun r => T.d (rowD r)) ∧ Sq n n rows ∧ ∀ r ∈ rows, ∀ x ∈ r, x.natAbs ≤ 10 ^ j * 2 ^ 133) ∧ j ≤ tn.toNat, ⟨_, _, _, _, _, _, rfl, ⟨rows, rfl, hs, fun r hr x hx => by rw [Nat.pow_zero, Nat.one_mul]; exact Nat.le_of_lt ((hz r hr).mem hx)⟩, Nat.zero_le _⟩, fun j x r hx hW => ?_, fun r hW => ?_⟩
  · obtain ⟨L, s10, s15, s16, s17, s18, rfl, ⟨rows, rfl, hs, hz⟩, hj⟩ := hW
    obtain ⟨hj1, rfl⟩ := rangeI_get hx
    refine ⟨nd0, a, ns, _, rfl, hl, by omega, by omega, fun y y0 y1 => ?_⟩
    have ni : (0 : Int) < (n : Nat) := by omega
    have e1 := em_b y n ni
    have e2 := em_b (y / 4) n ni
    have e3 := em_b (y / 16) 19
    have rest := fun (D : Ends3) (b : Int) (hb : b.natAbs ≤ 9) q => v_R3_law_rows_1 (D := D) (s0 := some (.sc a ns)) (s1 := some (.d (.int st))) (s2 := some (.d (.int w))) (s3 := some (.d (.int hd))) (s4 := some (.d (.int (n : Nat)))) (s5 := some (.d (.int kd))) (s7 := s7) (s8 := s8) (s9 := s9) (s10 := some (.d (.int y))) (s11 := s11) (s12 := s12) (s13 := s13) (s14 := some (.d (.int tn))) (s15 := some (.d (.int (0 + (j : Nat))))) (p6 := p6) (rows := rows) (i := (y % n).toNat) (j := (y / 4 % n).toNat) (io := y % n) (jo := y / 4 % n) (b := b) (z := 10 ^ j * 2 ^ 133) hs n4 (by omega) (by omega) (by omega) (by omega) hb hz (by
      have := big (j + 1) (by omega)
      rw [Nat.pow_succ] at this
      omega) q
    have up : ∀ {c : Nat}, c ≤ 10 * (10 ^ j * 2 ^ 133) → c ≤ 10 ^ (j + 1) * 2 ^ 133 := fun {c} h => by
      rw [Nat.pow_succ]
      omega
    refine ⟨ni, divOk (n := 4) pz (by unfold Sz; decide) (by decide), ni, divOk (n := 6) pz (by unfold Sz; decide) (by decide), pz, rfl, rfl, fun hc => ?_, fun hc => rest _ _ (by omega) fun rows' g1 g2 => ⟨_, _, _, _, _, _, rfl, ⟨rows', rfl, g1, fun r hr x hx => up (g2 r hr x hx)⟩, by omega⟩⟩
    refine ⟨sz 3, fun _ => ⟨rfl, divOk (n := 6) pz (by unfold Sz; decide) (by decide), pz, ?_⟩⟩
    obtain ⟨b, hb, hb9⟩ := pickA (l := [.int 0, .int (-2), .int 1]) (P := fun b => b.natAbs ≤ 9) (em_b (y / 16) 3).1 (em_b (y / 16) 3).2 (fun z hz => by
      rcases List.mem_cons.mp hz with rfl | hz
      · exact ⟨0, rfl, by decide⟩
      · rcases List.mem_cons.mp hz with rfl | hz
        · exact ⟨-2, rfl, by decide⟩
        · rcases List.mem_cons.mp hz with rfl | hz
          · exact ⟨1, rfl, by decide⟩
          · cases hz)
    exact ⟨_, hb, rest _ b hb9 fun rows' g1 g2 => ⟨_, _, _, _, _, _, rfl, ⟨rows', rfl, g1, fun r hr x hx => up (g2 r hr x hx)⟩, by omega⟩⟩
  · obtain ⟨L, s10, s15, s16, s17, s18, rfl, ⟨rows, rfl, hs, hz⟩, hj⟩ := hW
    rw [rangeI_len] at hz
    exact q rows _ _ _ _ _ hs fun r hr => SzL.of fun x hx => Nat.lt_of_le_of_lt (hz r hr x hx) (big _ (by omega))
theorem v_law_rows_1 (ts Q E) (h : sp_law_rows_1 ts Q E) : body_law_rows_1 { nx := fun r => finOk ts r ∧ Q (.d .none) (finF ts r), rt := fun x r => finOk ts r ∧ Q x (finF ts r) } (start3 N_law_rows_1 ts) := by
  obtain ⟨a, ns, st, w, rfl, hl, h0, h1, w0, w1, q⟩ := h
  have hb2 : 1000 < sizeLine := by decide
  refine ⟨nd0, a, ns, st, rfl, hl, h0, by omega, fun x x0 x1 => ?_⟩
  have e4 := em_b x 4
  have e6 := em_b (x / 4) 6
  refine ⟨pz, divOk (n := 4) pz (by unfold Sz; decide) (by decide), pz, sz 0, fun p6 => v_L2_law_rows_1 hl h0 h1 w0 w1 (by omega) (by omega) e6.1 e6.2 fun rows s7 s8 s9 s10 s11 s12 s13 hs hz => ?_⟩
  obtain ⟨g, hg, g0, g1⟩ := pickA (l := [.int 6, .int 30]) (P := fun y => 1 ≤ y ∧ y ≤ 30) w0 (by simpa using w1) (fun z hz => by
    rcases List.mem_cons.mp hz with rfl | hz
    · exact ⟨6, rfl, by decide, by decide⟩
    · rcases List.mem_cons.mp hz with rfl | hz
      · exact ⟨30, rfl, by decide, by decide⟩
      · cases hz)
  refine ⟨divOk (n := 6) pz (by unfold Sz; decide) (by decide), sz 2, fun _ => ⟨rfl, _, hg, by show (0 : Int) < g; omega, sz 6, fun _ => ⟨rfl, ?_⟩⟩⟩
  have eg := em_b (x / 24) g (by omega)
  obtain ⟨tn, ht, t0, t1⟩ := pickA (l := [.int 0, .int 0, .int 0, .int 0, .int 0, .int (3 + x / 24 % g)]) (P := fun t => 0 ≤ t ∧ t ≤ 32) e6.1 (by simpa using e6.2) (fun z hz => by
    simp only [List.mem_cons, List.not_mem_nil, or_false] at hz
    rcases hz with rfl | rfl | rfl | rfl | rfl | rfl
    all_goals first | exact ⟨0, rfl, by decide, by decide⟩ | exact ⟨_, rfl, by omega, by omega⟩)
  refine ⟨_, ht, ?_⟩
  have em : (1 + x % 4 : Int) = (((1 + x % 4).toNat : Nat) : Int) := by omega
  refine v_L4_law_rows_1 (n := (1 + x % 4).toNat) hl h0 h1 (by omega) (by omega) t0 t1 em hs hz fun rows' s10 s15 s16 s17 s18 hs2 hz2 => ⟨nvs_map _ _, ?_⟩
  rw [fz_own p6 rowD rows']
  have hl' := hs2.1
  refine lc_gen (rows'.map rowT) (by simp) (by rw [List.length_map]; omega) (fun r0 h0' i x y hx hy R S ku => ?_) fun r0 h0' pn => ⟨nvs_d _, ?_⟩
  · simp only [wp, puts, List.set_cons_succ, List.set_cons_zero] at h0'; subst h0'
    obtain ⟨u, hu, rfl⟩ := get_fun hx
    obtain rfl := get_map2 hy hu
    exact ⟨fun _ => ku _ rfl, nofun⟩
  · simp only [wp, puts, List.set_cons_succ, List.set_cons_zero] at h0'; subst h0'
    rw [fz_outs]
    exact ⟨⟨⟩, q rows' _ hs2 (by omega) (by omega) hz2⟩
end L3
namespace L3
open PySem PySem.Spec PyProof.Rows L2
local macro_rules | `(tactic| wtm_at "sh") => `(tactic| conv => whnf)
/-! ## the law's determinant -/
theorem sumR_sz {f : Nat → Int} {X : Nat} : ∀ {m : Nat}, (∀ k, k < m → (f k).natAbs ≤ X) → (sumR m f).natAbs ≤ m * X
  | 0, _ => by show (0 : Int).natAbs ≤ _; simp
  | m + 1, h => by
    have h1 := sumR_sz (m := m) fun k hk => h k (by omega)
    have h2 := h m (by omega)
    show (sumR m f + f m).natAbs ≤ (m + 1) * X
    have := Int.natAbs_add_le (sumR m f) (f m)
    rw [Nat.add_mul]
    omega
theorem sg_abs (k : Nat) : (sg k).natAbs = 1 := by unfold sg; split <;> rfl
theorem SzL.erase {b k : Nat} {r : List Int} (h : SzL b r) : SzL b (r.eraseIdx k) := fun c => by
  rw [get_erase]
  split
  · exact h _
  · exact h _
theorem det_sz (b : Nat) : ∀ (n : Nat) (rows : Mat), n ≤ 4 → Sq n n rows → (∀ r ∈ rows, SzL b r) → (detN n rows).natAbs ≤ 2 ^ (n * (b + 2))
  | 0, rows, _, _, _ => by show (1 : Int).natAbs ≤ _; simp
  | n + 1, [], _, h, _ => by have := h.1; simp at this
  | n + 1, r :: rest, h4, h, hz => by
    obtain ⟨hr, ht⟩ := h.tail
    show (sumR (n + 1) fun k => r.getD k 0 * sg k * detN n (minor k rest)).natAbs ≤ _
    have := sumR_sz (m := n + 1) (X := 2 ^ b * 2 ^ (n * (b + 2))) (f := fun k => r.getD k 0 * sg k * detN n (minor k rest)) fun k hk => by
      have e1 := hz r (by simp) k
      have e2 := det_sz b n (minor k rest) (by omega) (ht.minor hk) fun x hx => by
        obtain ⟨y, hy, rfl⟩ := List.mem_map.mp hx
        exact (hz y (List.mem_cons_of_mem _ hy)).erase
      rw [Int.natAbs_mul, Int.natAbs_mul, sg_abs, Nat.mul_one]
      exact Nat.mul_le_mul (Nat.le_of_lt e1) e2
    refine Nat.le_trans this ?_
    have e3 : 2 ^ ((n + 1) * (b + 2)) = 4 * (2 ^ b * 2 ^ (n * (b + 2))) := by
      rw [Nat.add_mul, Nat.one_mul, Nat.pow_add, Nat.pow_add]
      grind
    rw [e3]
    exact Nat.mul_le_mul_right _ h4
theorem det_Sz {b n : Nat} {rows : Mat} (h4 : n ≤ 4) (h : Sq n n rows) (hz : ∀ r ∈ rows, SzL b r) : Sz (n * (b + 2) + 1) (detN n rows) := by
  have := det_sz b n rows h4 h hz
  unfold Sz
  rw [Nat.pow_succ]
  have : 0 < 2 ^ (n * (b + 2)) := Nat.pow_pos (by decide)
  omega
theorem erase_cut {r : List Int} {k : Nat} (h : k < r.length) : cutL (r.map PyData.int) none (some (k : Int)) ++ cutL (r.map PyData.int) (some ((k : Int) + 1)) none = (r.eraseIdx k).map PyData.int := by
  rw [cut_take (by rw [List.length_map]; omega), show ((k : Int) + 1) = ((k + 1 : Nat) : Int) from rfl, cut_drop (by rw [List.length_map]; omega), ← List.map_take, ← List.map_drop, ← List.map_append, List.eraseIdx_eq_take_drop_succ]
theorem sgn_pick (i : Nat) : getI [PyData.int 1, PyData.int (-1)] ((i : Int) % 2) = some (.int (sg i)) := by
  rcases (show i % 2 = 0 ∨ i % 2 = 1 by omega) with h | h
  · rw [show ((i : Int) % 2) = 0 by omega]; unfold sg; rw [if_pos h]; rfl
  · rw [show ((i : Int) % 2) = 1 by omega]; unfold sg; rw [if_neg (by omega)]; rfl
theorem nest_matP {rows : Mat} (h : rows.length < sizeLine) (k : ∀ r ∈ rows, r.length < sizeLine) : Nest 8 (matP rows) := ⟨by rw [List.length_map]; exact h, fun x hx => by
  obtain ⟨r, hr, rfl⟩ := List.mem_map.mp hx
  exact ⟨by rw [List.length_map]; exact k r hr, fun y hy => by obtain ⟨z, _, rfl⟩ := List.mem_map.mp hy; exact ⟨⟩⟩⟩
theorem eqvT_map_nil {α : Type} (f : α → PyData) (l : List α) : PyData.eqv (.tuple (l.map f)) (.tuple []) = decide (l = []) := by
  cases l with
  | nil => rfl
  | cons x l => simp [PyData.eqv, PyData.eqvAll]
def N_law_determinant : List Str := ["_law_rows_here", "_law_found", "_law_at", "_law_number_here", "_law_left", "_law_row"]
def body_law_determinant (sp_law_determinant : Sp3) : TS3 := (xSeq (xIfS (xTest (x2 kEq (xView 0) (xFz (xTup xNil)))) (xRet (xD (xC (.int 1)))) xNext)
  (xSeq (xAsg (xD (xC (.int 0))) (xGName 1))
  (xSeq (xFor (xEnumX (x2 cIx (xView 0) (xC (.int 0)))) (xGTup 2 (xGCons (xGName 2) (xGCons (xGName 3) xGNil))) (xIfS (xTest (x2 kNeI (xView 3) (xC (.int 0)))) (xSeq (xAsg (xD (x1 cTup (xFz (xLc (xSeqI (xFz (xSl (xView 0) (xSome (xC (.int 1))) xNo))) (xGName 5) xYes (x2 cAdd (xFz (xSl (xView 5) xNo (xSome (xView 2)))) (xFz (xSl (xView 5) (xSome (x2 kAdd (xView 2) (xC (.int 1)))) xNo))) [5])))) (xGName 4))
  (xAsg (xD (x2 kAdd (xView 1) (x2 kMul (x2 kMul (xView 3) (x2 cIx (xFz (xLst (xCons (xD (xC (.int 1))) (xCons (xD (xNeg (xC (.int 1)))) xNil)))) (x2 kMod (xView 2) (xC (.int 2))))) (xFz (xCall sp_law_determinant xNoE (xArg (xView 4) xANil)))))) (xGName 1))) xNext))
  (xRet (xMove 1)))))

def sp_law_determinant (f : Nat) : Sp3 := fun ts Q _ => ∃ rows n b, ts = [.d (matP rows)] ∧ Sq n n rows ∧ n < f ∧ n ≤ 4 ∧ (∀ r ∈ rows, SzL b r) ∧ b ≤ 20000 ∧ Q (.d (.int (detN n rows))) ts
theorem z0_law_determinant {ts : List T} {Q : T → List T → Prop} {E : Addr → List T → Prop} (h : sp_law_determinant 0 ts Q E) : False := by
  obtain ⟨_, _, _, _, _, h, _⟩ := h
  omega
theorem v_law_determinant (f) (ts Q E) (h : sp_law_determinant (f + 1) ts Q E) : body_law_determinant (sp_law_determinant f) { nx := fun r => finOk ts r ∧ Q (.d .none) (finF ts r), rt := fun x r => finOk ts r ∧ Q x (finF ts r) } (start3 N_law_determinant ts) := by
  obtain ⟨rows, n, b, rfl, hs, hf, h4, hz, hb, q⟩ := h
  have hb2 : 1000 < sizeLine := by decide
  have hl := hs.1
  refine ⟨sz 0, nest_shaped (nest_matP (by omega) fun r hr => by rw [hs.2 r hr]; omega) (by decide), rfl, fun hc => ?_, fun hc => ?_⟩
  · have e : rows = [] := of_decide_eq_true ((eqvT_map_nil rowT rows).symm.trans hc)
    subst e
    have e : n = 0 := hl.symm
    subst e
    exact ⟨⟨⟩, q⟩
  · have e : rows ≠ [] := of_decide_eq_false ((eqvT_map_nil rowT rows).symm.trans hc)
    match rows, n, hs, hl, e with
    | r :: rest, m + 1, hs, hl, _ =>
    clear e
    obtain ⟨hr, ht⟩ := hs.tail
    have hl2 := ht.1
    have ec : cutL (List.map rowT (r :: rest)) (some 1) none = rest.map rowT := by rw [cut_one (by simp)]; rfl
    refine ⟨_, rfl, _, rfl, fun i s => ∃ c s2 s3 s4, s = [some (.d (matP (r :: rest))), some (.d (.int c)), s2, s3, s4, none] ∧ c = sumR i (fun k => r.getD k 0 * sg k * detN m (minor k rest)) ∧ i ≤ m + 1, ⟨_, _, _, _, rfl, rfl, by omega⟩, fun i x s hx hW => ?_, fun s hW => ?_⟩
    · obtain ⟨c, s2, s3, s4, rfl, rfl, hi⟩ := hW
      obtain ⟨u, hu, rfl⟩ := enum_get hx
      have hi2 : i < m + 1 := by have := (List.getElem?_eq_some_iff.mp hu).1; omega
      have eu : r.getD i 0 = u := by rw [List.getD_eq_getElem?_getD, hu]; rfl
      refine ⟨rfl, fun hc => ?_, fun hc => ?_⟩
      · refine lc_gen ((minor i rest).map rowT) (by rw [show cutL (List.map rowT (r :: rest)) (some 1) none = rest.map rowT from ec, List.length_map, List.length_map]; unfold minor; rw [List.length_map]) (by rw [show cutL (List.map rowT (r :: rest)) (some 1) none = rest.map rowT from ec, List.length_map]; omega) (fun r0 h0 j x y hx hy R S ku => ?_) fun r0 h0 pn => ⟨nvs_d _, ?_⟩
        · simp only [wp, puts, List.set_cons_succ, List.set_cons_zero] at h0; subst h0
          rw [show cutL (List.map rowT (r :: rest)) (some 1) none = rest.map rowT from ec] at hx
          obtain ⟨v, hv, rfl⟩ := get_fun hx
          have lv := ht.2 v (List.mem_of_getElem? hv)
          obtain rfl := get_map2 (f := rowT) hy (show (minor i rest)[j]? = some (v.eraseIdx i) by unfold minor; rw [List.getElem?_map, hv]; rfl)
          have e := erase_cut (r := v) (k := i) (by omega)
          refine ⟨fun _ => ?_, nofun⟩
          rw [show rowT (v.eraseIdx i) = .tuple (cutL (v.map PyData.int) none (some (i : Int)) ++ cutL (v.map PyData.int) (some ((i : Int) + 1)) none) by rw [e]] at ku
          have c1 : (cutL (v.map PyData.int) none (some (i : Int))).length + (cutL (v.map PyData.int) (some ((i : Int) + 1)) none).length ≤ 1000 := by
            rw [← List.length_append, e, List.length_map, List.length_eraseIdx]
            split <;> omega
          exact ⟨Nat.le_trans c1 (by decide), ku _ rfl⟩
        · simp only [wp, puts, List.set_cons_succ, List.set_cons_zero] at h0; subst h0
          rw [fz_outs]
          have szu : Sz b u := by rw [← eu]; exact hz r (by simp) i
          have zl : ∀ x ∈ minor i rest, SzL b x := fun x hx => by
            obtain ⟨y, hy, rfl⟩ := List.mem_map.mp hx
            exact (hz y (List.mem_cons_of_mem _ hy)).erase
          have sd := det_Sz (by omega) (ht.minor (k := i) hi2) zl
          have ss : Sz 1 (sg i) := by unfold Sz; rw [sg_abs]; decide
          refine ⟨sz 2, fun _ => ⟨rfl, pz, _, sgn_pick i, mulOk szu ss (by omega), nd0, minor i rest, m, b, rfl, ht.minor hi2, by omega, by omega, zl, hb, mulOk (szu.mul ss) sd ?_, _, _, _, _, rfl, ?_, by omega⟩⟩
          · have : m * (b + 2) ≤ 3 * (20000 + 2) := Nat.mul_le_mul (by omega) (by omega)
            omega
          · show _ = sumR i _ + r.getD i 0 * sg i * _
            rw [eu]
      · have e0 : u = 0 := by simpa using hc
        refine ⟨_, _, _, _, rfl, ?_, by omega⟩
        show _ = sumR i _ + r.getD i 0 * sg i * _
        rw [eu, e0]
        simp
    · obtain ⟨c, s2, s3, s4, rfl, rfl, hi⟩ := hW
      rw [enumD_len, List.length_map, hr]
      exact ⟨⟨⟩, q⟩
def N_law_in : List Str := ["_law_rows_here", "_law_row", "_law_found", "_law_at"]
def body_law_in : TS3 := (xSeq (xAsg (xLst xNil) (xGName 2))
  (xSeq (xFor (xR1 (x1 cLen (xView 0))) (xGName 3) (xDrop (xApp 2 (xCall (sp_law_determinant 8) xNoE (xArg (xFz (x2 cAdd (xFz (x2 cAdd (xFz (xSl (xView 0) xNo (xSome (xView 3)))) (xFz (xTup (xCons (xMove 1) xNil))))) (xFz (xSl (xView 0) (xSome (x2 kAdd (xView 3) (xC (.int 1)))) xNo)))) xANil)))))
  (xRet (xMove 2))))

/-- how often each of the rows is in another one, times what they span -/
def inL_ (rows : Mat) (r : List Int) : List Int := (List.range rows.length).map fun i => detN rows.length (rows.set i r)
def sp_law_in : Sp3 := fun ts Q _ => ∃ rows n r b, ts = [.d (matP rows), .d (rowT r)] ∧ Sq n n rows ∧ n ≤ 4 ∧ r.length = n ∧ (∀ r ∈ rows, SzL b r) ∧ SzL b r ∧ b ≤ 20000 ∧ ∀ p, Q (.own p ((inL_ rows r).map fun x => T.d (.int x))) ts
theorem set_cut {rows : Mat} {r : List Int} {k : Nat} (h : k < rows.length) : cutL (rows.map rowT) none (some (k : Int)) ++ [rowT r] ++ cutL (rows.map rowT) (some ((k : Int) + 1)) none = (rows.set k r).map rowT := by
  rw [cut_take (by rw [List.length_map]; omega), show ((k : Int) + 1) = ((k + 1 : Nat) : Int) from rfl, cut_drop (by rw [List.length_map]; omega), List.set_eq_take_append_cons_drop, if_pos h, List.map_append, List.map_cons, ← List.map_take, ← List.map_drop, List.append_assoc]
  rfl
theorem v_law_in (ts Q E) (h : sp_law_in ts Q E) : body_law_in { nx := fun r => finOk ts r ∧ Q (.d .none) (finF ts r), rt := fun x r => finOk ts r ∧ Q x (finF ts r) } (start3 N_law_in ts) := by
  obtain ⟨rows, n, r, b, rfl, hs, h4, hr, hz, hz2, hb, q⟩ := h
  have hb2 : 1000 < sizeLine := by decide
  have hl := hs.1
  have lm : (rows.map rowT).length = rows.length := List.length_map ..
  refine ⟨sz 0, fun p => ⟨by show ((rows.map rowT).length : Int) < 2 ^ 62; rw [lm]; omega, by show -(2 ^ 62) ≤ ((rows.map rowT).length : Int); rw [lm]; omega, fun j s => ∃ L s3, s = [some (.d (matP rows)), some (.d (rowT r)), some (.own p L), s3] ∧ L = ((List.range j).map fun i => detN n (rows.set i r)).map (fun x => T.d (.int x)) ∧ j ≤ n, ⟨_, _, rfl, rfl, Nat.zero_le _⟩, fun j x s hx hW => ?_, fun s hW => ?_⟩⟩
  · obtain ⟨L, s3, rfl, rfl, hj⟩ := hW
    obtain ⟨hj1, rfl⟩ := rangeI_get hx
    have hj2 : j < n := by
      have : j < ((rows.map rowT).length : Int).toNat := hj1
      rw [lm] at this
      omega
    have sc : cutL (rows.map rowT) none (some (0 + (j : Nat) : Int)) ++ [rowT r] ++ cutL (rows.map rowT) (some (0 + (j : Nat) + 1 : Int)) none = (rows.set j r).map rowT := by
      rw [Int.zero_add]; exact set_cut (by omega)
    have sl : (cutL (rows.map rowT) none (some (0 + (j : Nat) : Int)) ++ [rowT r] ++ cutL (rows.map rowT) (some (0 + (j : Nat) + 1 : Int)) none).length = n := by
      rw [sc, List.length_map, List.length_set, hl]
    have sl' := sl
    rw [List.length_append] at sl'
    have sl2 : (cutL (rows.map rowT) none (some (0 + (j : Nat) : Int)) ++ [rowT r]).length ≤ n := by omega
    rw [List.length_append] at sl2
    have zs : ∀ x ∈ rows.set j r, SzL b x := fun x hx => by
      rcases List.mem_or_eq_of_mem_set hx with h | rfl
      · exact hz x h
      · exact hz2
    refine ⟨sz 1, Nat.le_trans (Nat.le_trans sl2 h4) (by decide), Nat.le_trans (Nat.le_trans (Nat.le_of_eq sl') h4) (by decide), nd0, rows.set j r, n, b, congrArg (fun l => [T.d (.tuple l)]) sc, hs.set hr, by omega, h4, zs, hb, by rw [List.length_map, List.length_map, List.length_range]; omega, _, _, rfl, ?_, by omega⟩
    rw [List.range_succ, List.map_append, List.map_append]; rfl
  · obtain ⟨L, s3, rfl, rfl, hj⟩ := hW
    rw [rangeI_len, lm, hl]
    have e : inL_ rows r = (List.range n).map fun i => detN n (rows.set i r) := by unfold inL_; rw [hl]
    exact ⟨⟨⟩, e ▸ q p⟩
def N_law_is_lattice_1 : List Str := ["_law_rows_here", "_law_row"]
def body_law_is_lattice_1 : TS3 := (xSeq (xIfS (xOr (xTest (x2 kEq (xView 0) (xFz (xTup xNil)))) (xTest (x2 kNe (xFz (xLc (xSeqI (xView 0)) (xGName 1) (xTest (x2 kNeI (x1 cLen (xView 1)) (x1 cLen (xView 0)))) (xMove 1) [1])) (xFz (xLst xNil))))) (xRet (xD (xC (.bool false)))) xNext)
  (xRet (xD (x2 kNeI (xFz (xCall (sp_law_determinant 8) xNoE (xArg (xView 0) xANil))) (xC (.int 0))))))

def sp_law_is_lattice_1 : Sp3 := fun ts Q _ => ∃ rows b, ts = [.d (matP rows)] ∧ rows.length ≤ 4 ∧ (∀ r ∈ rows, r.length ≤ 1000) ∧ (∀ r ∈ rows, SzL b r) ∧ b ≤ 20000 ∧ Q (.d (.bool (latB rows))) ts
theorem v_law_is_lattice_1 (ts Q E) (h : sp_law_is_lattice_1 ts Q E) : body_law_is_lattice_1 { nx := fun r => finOk ts r ∧ Q (.d .none) (finF ts r), rt := fun x r => finOk ts r ∧ Q x (finF ts r) } (start3 N_law_is_lattice_1 ts) := by
  obtain ⟨rows, b, rfl, h4, hw, hz, hb, q⟩ := h
  have hb2 : 1000 < sizeLine := by decide
  have lm : (rows.map rowT).length = rows.length := List.length_map ..
  refine ⟨sz 0, nest_shaped (nest_matP (by omega) fun r hr => by have := hw r hr; omega) (by decide), rfl, fun hc => ⟨fun _ => ?_, nofun⟩, fun hc => ?_⟩
  · have e : rows = [] := of_decide_eq_true ((eqvT_map_nil rowT rows).symm.trans hc)
    subst e
    exact ⟨⟨⟩, q⟩
  · have ne : rows ≠ [] := of_decide_eq_false ((eqvT_map_nil rowT rows).symm.trans hc)
    refine lf_gen rowT (fun r => decide (r.length ≠ rows.length)) rows (by omega) (fun r0 h0 u hu R S k1 k2 => ?_) fun r0 h0' p => ?_
    · simp only [wp, puts, List.set_cons_succ, List.set_cons_zero] at h0; subst h0
      have e : (!decide (((u.map PyData.int).length : Int) = ((rows.map rowT).length : Int))) = decide (u.length ≠ rows.length) := by
        rw [List.length_map, lm, ← decide_not]
        exact decide_eq_decide.mpr (by omega)
      exact ⟨fun hc2 => k1 (e.symm.trans hc2) _ rfl, fun hc2 => k2 (e.symm.trans hc2) _ rfl⟩
    · simp only [wp, puts, List.set_cons_succ, List.set_cons_zero] at h0'; subst h0'
      refine ⟨nvs_map _ _, sz 0, fun p2 => ⟨rfl, ?_⟩⟩
      rw [fz_own p rowT (rows.filter fun r => decide (r.length ≠ rows.length))]
      have fl := List.length_filter_le (fun r : List Int => decide (r.length ≠ rows.length)) rows
      have ee := eqv_map_nil rowT (rows.filter fun r => decide (r.length ≠ rows.length))
      have hfil : ((rows.filter fun r => decide (r.length ≠ rows.length)) = []) ↔ ∀ r ∈ rows, r.length = rows.length := by
        rw [filter_none]
        exact ⟨fun h r hr => by have := h r hr; simpa using this, fun h r hr => by simp [h r hr]⟩
      have hp : 0 < rows.length := List.length_pos_iff.mpr ne
      refine ⟨nest_shaped (nest_rows (by omega) fun r hr => by have := hw r (List.mem_filter.mp hr).1; omega) (by decide), shp_nilL, fun hc => ?_, fun hc => ?_⟩
      · have hc' : (!PyData.eqv (.list ((rows.filter fun r => decide (r.length ≠ rows.length)).map rowT)) (.list [])) = true := hc
        rw [ee] at hc'
        have : ¬ ∀ r ∈ rows, r.length = rows.length := fun h => by rw [decide_eq_true (hfil.mpr h)] at hc'; cases hc'
        have e : latB rows = false := by
          unfold latB sqB
          rw [decide_eq_false this, Bool.and_false, Bool.false_and]
        rw [e] at q
        exact ⟨⟨⟩, q⟩
      · have hc' : (!PyData.eqv (.list ((rows.filter fun r => decide (r.length ≠ rows.length)).map rowT)) (.list [])) = false := hc
        rw [ee] at hc'
        have hall : ∀ r ∈ rows, r.length = rows.length := hfil.mp (by simpa using hc')
        refine ⟨nd0, rows, rows.length, b, rfl, ⟨rfl, hall⟩, by omega, h4, hz, hb, ⟨⟩, ?_⟩
        have e : (!decide (detN rows.length rows = 0)) = latB rows := by
          unfold latB sqB
          rw [decide_eq_true hall, decide_eq_true hp, Bool.and_self, Bool.true_and, decide_not]
        rw [← e] at q
        exact q
def N_law_has_1 : List Str := ["_law_rows_here", "_law_row", "_law_span", "_law_one"]
def body_law_has_1 : TS3 := (xSeq (xAsg (xCall (sp_law_determinant 8) xNoE (xArg (xView 0) xANil)) (xGName 2))
  (xRet (xD (xAndV (x2 kEqI (x1 cLen (xView 1)) (x1 cLen (xView 0))) (x2 kEq (xFz (xLc (xSeqI (xFz (xCall sp_law_in xNoE (xArg (xView 0) (xArg (xView 1) xANil))))) (xGName 3) (xTest (x2 kNeI (x2 kModF (xView 3) (xView 2)) (xC (.int 0)))) (xMove 3) [3])) (xFz (xLst xNil)))))))

/-- whether a row is one of the lattice, by determinants -/
def hasB (rows : Mat) (r : List Int) : Bool := decide (r.length = rows.length) && decide (∀ i, i < rows.length → detN rows.length rows ∣ detN rows.length (rows.set i r))
def sp_law_has_1 : Sp3 := fun ts Q _ => ∃ rows n r b, ts = [.d (matP rows), .d (rowT r)] ∧ Sq n n rows ∧ n ≤ 4 ∧ detN n rows ≠ 0 ∧ (∀ r ∈ rows, SzL b r) ∧ SzL b r ∧ r.length ≤ 1000 ∧ b ≤ 20000 ∧ Q (.d (.bool (hasB rows r))) ts
theorem v_law_has_1 (ts Q E) (h : sp_law_has_1 ts Q E) : body_law_has_1 { nx := fun r => finOk ts r ∧ Q (.d .none) (finF ts r), rt := fun x r => finOk ts r ∧ Q x (finF ts r) } (start3 N_law_has_1 ts) := by
  obtain ⟨rows, n, r, b, rfl, hs, h4, hd, hz, hz2, hr, hb, q⟩ := h
  have hb2 : 1000 < sizeLine := by decide
  have hl := hs.1
  have lm : (rows.map rowT).length = rows.length := List.length_map ..
  have lr : (r.map PyData.int).length = r.length := List.length_map ..
  refine ⟨nd0, rows, n, b, rfl, hs, by omega, h4, hz, hb, fun hc => ?_, fun hc => ?_⟩
  · have hrl : r.length = n := by
      have : ((r.map PyData.int).length : Int) = ((rows.map rowT).length : Int) := of_decide_eq_true hc
      rw [lm, lr] at this
      omega
    refine ⟨nd0, rows, n, r, b, rfl, hs, h4, hrl, hz, hz2, hb, fun p => ⟨nvs_map _ _, ?_⟩⟩
    rw [fz_own p PyData.int (inL_ rows r)]
    have li : (inL_ rows r).length = n := by unfold inL_; rw [List.length_map, List.length_range, hl]
    refine lf_gen PyData.int (fun x => decide (x.fmod (detN n rows) ≠ 0)) (inL_ rows r) (by omega) (fun r0 h0 u hu R S k1 k2 => ?_) fun r0 h0' p => ?_
    · simp only [wp, puts, List.set_cons_succ, List.set_cons_zero] at h0; subst h0
      have e : (!decide (u.fmod (detN n rows) = 0)) = decide (u.fmod (detN n rows) ≠ 0) := by rw [← decide_not]
      exact ⟨hd, fun hc2 => k1 (e.symm.trans hc2) _ rfl, fun hc2 => k2 (e.symm.trans hc2) _ rfl⟩
    · simp only [wp, puts, List.set_cons_succ, List.set_cons_zero] at h0'; subst h0'
      refine ⟨nvs_map _ _, sz 0, fun p2 => ⟨rfl, ?_⟩⟩
      rw [fz_own p PyData.int ((inL_ rows r).filter fun x => decide (x.fmod (detN n rows) ≠ 0))]
      have fl := List.length_filter_le (fun x : Int => decide (x.fmod (detN n rows) ≠ 0)) (inL_ rows r)
      refine ⟨nest_shaped (n := 8) ⟨by rw [List.length_map]; omega, fun x hx => by obtain ⟨_, _, rfl⟩ := List.mem_map.mp hx; exact ⟨⟩⟩ (by decide), shp_nilL, ⟨⟩, ?_⟩
      show Q (.d (.bool (PyData.eqv (.list (((inL_ rows r).filter fun x => decide (x.fmod (detN n rows) ≠ 0)).map PyData.int)) (.list [])))) _
      rw [eqv_map_nil]
      have e : decide (((inL_ rows r).filter fun x => decide (x.fmod (detN n rows) ≠ 0)) = []) = hasB rows r := by
        unfold hasB
        rw [decide_eq_true (show r.length = rows.length by omega), Bool.true_and]
        refine decide_eq_decide.mpr ?_
        rw [filter_none, hl]
        unfold inL_
        rw [hl]
        constructor
        · intro h i hi
          have := h _ (List.mem_map_of_mem (List.mem_range.mpr hi))
          have h2 : (detN n (rows.set i r)).fmod (detN n rows) = 0 := by simpa using this
          exact Int.dvd_of_fmod_eq_zero h2
        · intro h u hu
          obtain ⟨i, hi, rfl⟩ := List.mem_map.mp hu
          have := Int.fmod_eq_zero_of_dvd (h i (List.mem_range.mp hi))
          rw [this]; rfl
      rw [e]
      exact q
  · have hrl : ¬ r.length = rows.length := fun e => by
      have : ¬ ((r.map PyData.int).length : Int) = ((rows.map rowT).length : Int) := of_decide_eq_false hc
      rw [lm, lr] at this
      omega
    have e : hasB rows r = false := by unfold hasB; rw [decide_eq_false hrl, Bool.false_and]
    rw [e] at q
    exact ⟨⟨⟩, q⟩
end L3
namespace L3
open PySem PySem.Spec PyProof.Rows L2
local macro_rules | `(tactic| wtm_at "sh") => `(tactic| conv => whnf)
/-- a comprehension that chooses none -/
theorem ln_gen {α : Type} {f : α → PyData} (l : List α) (hsz : l.length ≤ sizeLine) {r1 : Rho} {js : List Nat} {g : TG3} {tt : TT3} {te : TE3} {Fin : Addr → List T → Rho → Prop}
    (turn : ∀ r0, wp r1 js = r0 → ∀ (i : Nat) (u : α), l[i]? = some u → ∀ (R : T → Rho → Prop) (S : Rho → Prop), (∀ r3, wp r3 js = r0 → S r3) → g (.d (f u)) r0 fun r2 => tt r2 fun b r3 => (b = true → te r3 R) ∧ (b = false → S r3))
    (fin : ∀ r0, wp r1 js = r0 → ∀ p, Fin p [] r0) :
    ∀ p, ∃ W : Nat → List T → Rho → Prop, W 0 [] (wp r1 js) ∧
      (∀ (i : Nat) (x : PyData) (acc : List T) (r : Rho), (l.map f)[i]? = some x → W i acc r → g (.d x) r fun r2 => tt r2 fun b r3 => (b = true → te r3 fun y r4 => acc.length < sizeLine ∧ W (i + 1) (acc ++ [y]) (wp r4 js)) ∧ (b = false → W (i + 1) acc (wp r3 js))) ∧
      ∀ acc r, W (l.map f).length acc r → Fin p acc r := fun p => by
  refine ⟨fun i acc r => r = wp r1 js ∧ acc = [], ⟨rfl, rfl⟩, fun i x acc r hx hW => ?_, fun acc r hW => ?_⟩
  · obtain ⟨rfl, rfl⟩ := hW
    obtain ⟨u, hu, rfl⟩ := get_fun hx
    exact turn _ rfl i u hu _ _ fun r3 h3 => ⟨h3, rfl⟩
  · obtain ⟨rfl, rfl⟩ := hW
    exact fin _ rfl p
theorem ln_cut {α : Type} {f : α → PyData} {l' : List PyData} (l : List α) (e : l' = l.map f) (hsz : l.length ≤ sizeLine) {r1 : Rho} {js : List Nat} {g : TG3} {tt : TT3} {te : TE3} {Fin : Addr → List T → Rho → Prop}
    (turn : ∀ r0, wp r1 js = r0 → ∀ (i : Nat) (u : α), l[i]? = some u → ∀ (R : T → Rho → Prop) (S : Rho → Prop), (∀ r3, wp r3 js = r0 → S r3) → g (.d (f u)) r0 fun r2 => tt r2 fun b r3 => (b = true → te r3 R) ∧ (b = false → S r3))
    (fin : ∀ r0, wp r1 js = r0 → ∀ p, Fin p [] r0) :
    ∀ p, ∃ W : Nat → List T → Rho → Prop, W 0 [] (wp r1 js) ∧
      (∀ (i : Nat) (x : PyData) (acc : List T) (r : Rho), l'[i]? = some x → W i acc r → g (.d x) r fun r2 => tt r2 fun b r3 => (b = true → te r3 fun y r4 => acc.length < sizeLine ∧ W (i + 1) (acc ++ [y]) (wp r4 js)) ∧ (b = false → W (i + 1) acc (wp r3 js))) ∧
      ∀ acc r, W l'.length acc r → Fin p acc r := by
  subst e
  exact ln_gen l hsz turn fin
def L1_law_stand : TS3 := (xFor (xEnumX (xView 0)) (xGTup 2 (xGCons (xGName 1) (xGCons (xGName 2) xGNil))) (xSeq (xIfS (xOr (xNot (xTest (x1 (cIsi "tuple") (xView 2)))) (xTest (x2 kNe (xFz (xLc (xSeqI (xView 2)) (xGName 4) (xTest (x1 (cIsi "bool") (xView 4))) (xD (xC (.int 1))) [4])) (xFz (xLst xNil))))) (xRet (xD (xC (.bool false)))) xNext)
  (xSeq (xIfS (xOr (xTest (x2 kNe (xFz (xLc (xSeqI (xFz (xSl (xView 2) xNo (xSome (xView 1))))) (xGName 4) (xTest (x2 kNeI (xView 4) (xC (.int 0)))) (xMove 4) [4])) (xFz (xLst xNil)))) (xTest (x2 kLt (x2 cIx (xView 2) (xView 1)) (xC (.int 1))))) (xRet (xD (xC (.bool false)))) xNext)
  (xIfS (xTest (x2 kNe (xFz (xLc (xSeqI (xFz (xSl (xView 0) xNo (xSome (xView 1))))) (xGName 3) (xNot (xTest (xChain pLe pLt (xC (.int 0)) (x2 cIx (xView 3) (xView 1)) (x2 cIx (xView 2) (xView 1))))) (xMove 3) [3])) (xFz (xLst xNil)))) (xRet (xD (xC (.bool false)))) xNext))))
def N_law_stand : List Str := ["_law_found", "_law_place", "_law_row", "_law_above", "_law_number_here"]
def body_law_stand : TS3 := (xSeq L1_law_stand
  (xRet (xD (xC (.bool true)))))

def sp_law_stand : Sp3 := fun ts Q _ => ∃ rows n rows0, ts = [.d (matP rows)] ∧ n ≤ 4 ∧ Stand n rows0 rows ∧ Q (.d (.bool true)) ts
theorem v_law_stand (ts Q E) (h : sp_law_stand ts Q E) : body_law_stand { nx := fun r => finOk ts r ∧ Q (.d .none) (finF ts r), rt := fun x r => finOk ts r ∧ Q x (finF ts r) } (start3 N_law_stand ts) := by
  obtain ⟨rows, n, rows0, rfl, h4, hs, q⟩ := h
  have hb2 : 1000 < sizeLine := by decide
  have hl := hs.st.sq.1
  have lm : (rows.map rowT).length = rows.length := List.length_map ..
  refine ⟨_, rfl, fun i r => ∃ s1 s2, r = [some (.d (matP rows)), s1, s2, none, none], ⟨_, _, rfl⟩, fun i x r hx hW => ?_, fun r hW => ?_⟩
  · obtain ⟨s1, s2, rfl⟩ := hW
    obtain ⟨U, hU, rfl⟩ := enum_get hx
    have lU := hs.st.sq.2 U (List.mem_of_getElem? hU)
    have hi : i < rows.length := (List.getElem?_eq_some_iff.mp hU).1
    refine ⟨rfl, nofun, fun _ => ?_⟩
    refine ln_gen U (by omega) (fun r0 h0 j u hu R S k => ?_) fun r0 h0 p => ⟨rfl, sz 0, fun p2 => ⟨rfl, rfl, rfl, nofun, fun _ => ?_⟩⟩
    · simp only [wp, puts, List.set_cons_succ, List.set_cons_zero] at h0; subst h0
      exact ⟨nofun, fun _ => k _ rfl⟩
    simp only [wp, puts, List.set_cons_succ, List.set_cons_zero] at h0; subst h0
    have ec : cutL (U.map PyData.int) none (some (i : Int)) = (U.take i).map PyData.int := by rw [cut_take (by rw [List.length_map]; omega), List.map_take]
    have ec2 : cutL (rows.map rowT) none (some (i : Int)) = (rows.take i).map rowT := by rw [cut_take (by rw [List.length_map]; omega), List.map_take]
    refine ln_cut (U.take i) ec (by rw [List.length_take]; omega) (fun r0 h0 j u hu R S k => ?_) fun r0 h0 p => ?_
    · simp only [wp, puts, List.set_cons_succ, List.set_cons_zero] at h0; subst h0
      have hj : j < i := by have := (List.getElem?_eq_some_iff.mp hu).1; rw [List.length_take] at this; omega
      rw [List.getElem?_take, if_pos hj] at hu
      have e0 := hs.st.tri i U hU j (by omega)
      rw [List.getD_eq_getElem?_getD, hu] at e0
      have e0' : u = 0 := e0
      subst e0'
      exact ⟨nofun, fun _ => k _ rfl⟩
    simp only [wp, puts, List.set_cons_succ, List.set_cons_zero] at h0; subst h0
    refine ⟨rfl, sz 0, fun p2 => ⟨rfl, rfl, rfl, nofun, fun _ => ⟨_, rowD_at rfl (by omega), fun hc => ?_, fun _ => ?_⟩⟩⟩
    · have hc' : decide (U.getD i 0 < 1) = true := hc
      have := of_decide_eq_true hc'
      have := hs.pos i U hU
      omega
    refine ln_cut (rows.take i) ec2 (by rw [List.length_take]; omega) (fun r0 h0 j u hu R S k => ?_) fun r0 h0 p => ⟨rfl, sz 0, fun p2 => ⟨rfl, rfl, rfl, nofun, fun _ => ?_⟩⟩
    · simp only [wp, puts, List.set_cons_succ, List.set_cons_zero] at h0; subst h0
      have hj : j < i := by have := (List.getElem?_eq_some_iff.mp hu).1; rw [List.length_take] at this; omega
      rw [List.getElem?_take, if_pos hj] at hu
      have lu := hs.st.sq.2 u (List.mem_of_getElem? hu)
      obtain ⟨r1, r2⟩ := hs.red j i u U hu hU hj
      refine ⟨_, rowD_at rfl (by omega), fun _ => ⟨_, rowD_at rfl (by omega), fun hc => ?_, fun _ => k _ rfl⟩, fun hc => ?_⟩
      · have hc' : (!decide (u.getD i 0 < U.getD i 0)) = true := hc
        rw [decide_eq_true r2] at hc'
        cases hc'
      · have hc' : decide (0 ≤ u.getD i 0) = false := hc
        rw [decide_eq_true r1] at hc'
        cases hc'
    simp only [wp, puts, List.set_cons_succ, List.set_cons_zero] at h0; subst h0
    exact ⟨_, _, rfl⟩
  · obtain ⟨s1, s2, rfl⟩ := hW
    exact ⟨⟨⟩, q⟩
def N_law_same_3 : List Str := ["_law_one", "_law_other", "_law_row"]
def body_law_same_3 : TS3 := (xSeq (xIfS (xOr (xNot (xTest (xFz (xCall sp_law_is_lattice_1 xNoE (xArg (xView 1) xANil))))) (xTest (x2 kNeI (x1 cLen (xView 0)) (x1 cLen (xView 1))))) (xRet (xD (xC (.bool false)))) xNext)
  (xSeq (xIfS (xTest (x2 kNeI (x1 cAbs (xFz (xCall (sp_law_determinant 8) xNoE (xArg (xView 0) xANil)))) (x1 cAbs (xFz (xCall (sp_law_determinant 8) xNoE (xArg (xView 1) xANil)))))) (xRet (xD (xC (.bool false)))) xNext)
  (xRet (xD (x2 kEq (xFz (xLc (xSeqI (xView 1)) (xGName 2) (xNot (xTest (xFz (xCall sp_law_has_1 xNoE (xArg (xView 0) (xArg (xView 2) xANil)))))) (xMove 2) [2])) (xFz (xLst xNil)))))))

/-- whether two lots of rows tell one lattice, by determinants -/
def sameB (one other : Mat) : Bool := latB other && decide (one.length = other.length) && decide ((detN one.length one).natAbs = (detN other.length other).natAbs) && decide (∀ r ∈ other, hasB one r = true)
def sp_law_same_3 : Sp3 := fun ts Q _ => ∃ one n other b, ts = [.d (matP one), .d (matP other)] ∧ Sq n n one ∧ n ≤ 4 ∧ detN n one ≠ 0 ∧ (∀ r ∈ one, SzL b r) ∧ other.length ≤ 4 ∧ (∀ r ∈ other, r.length ≤ 1000) ∧ (∀ r ∈ other, SzL b r) ∧ b ≤ 20000 ∧ Q (.d (.bool (sameB one other))) ts
theorem v_law_same_3 (ts Q E) (h : sp_law_same_3 ts Q E) : body_law_same_3 { nx := fun r => finOk ts r ∧ Q (.d .none) (finF ts r), rt := fun x r => finOk ts r ∧ Q x (finF ts r) } (start3 N_law_same_3 ts) := by
  obtain ⟨one, n, other, b, rfl, hs, h4, hd, hz, k4, kw, kz, hb, q⟩ := h
  have hb2 : 1000 < sizeLine := by decide
  have hl := hs.1
  have l1 : (one.map rowT).length = one.length := List.length_map ..
  have l2 : (other.map rowT).length = other.length := List.length_map ..
  refine ⟨nd0, other, b, rfl, k4, kw, kz, hb, fun hc => ⟨fun _ => ?_, nofun⟩, fun hc => ⟨fun hc2 => ?_, fun hc2 => ?_⟩⟩
  · have e : latB other = false := by
      have : (!latB other) = true := hc
      simpa using this
    have e2 : sameB one other = false := by unfold sameB; rw [e, Bool.false_and, Bool.false_and, Bool.false_and]
    rw [e2] at q
    exact ⟨⟨⟩, q⟩
  · have hne : ¬ one.length = other.length := fun e => by
      have : (!decide (((one.map rowT).length : Int) = ((other.map rowT).length : Int))) = true := hc2
      rw [l1, l2, e] at this
      simp at this
    have e2 : sameB one other = false := by unfold sameB; rw [decide_eq_false hne, Bool.and_false, Bool.false_and, Bool.false_and]
    rw [e2] at q
    exact ⟨⟨⟩, q⟩
  · have hlat : latB other = true := by
      have : (!latB other) = false := hc
      simpa using this
    have he : one.length = other.length := by
      have : (!decide (((one.map rowT).length : Int) = ((other.map rowT).length : Int))) = false := hc2
      rw [l1, l2] at this
      have : ((one.length : Int)) = (other.length : Int) := by simpa using this
      omega
    have hq := sqB_iff.mp ((Bool.and_eq_true _ _ ▸ hlat : sqB other = true ∧ _).1)
    refine ⟨nd0, one, n, b, rfl, hs, by omega, h4, hz, hb, nd0, other, other.length, b, rfl, hq.2, by omega, k4, kz, hb, fun hc => ?_, fun hc => ?_⟩
    · have hne : ¬ (detN one.length one).natAbs = (detN other.length other).natAbs := fun e => by
        have hc' : (!decide (((detN n one).natAbs : Int) = ((detN other.length other).natAbs : Int))) = true := hc
        rw [← hl, e] at hc'
        simp at hc'
      have e2 : sameB one other = false := by unfold sameB; rw [decide_eq_false hne, Bool.and_false, Bool.false_and]
      rw [e2] at q
      exact ⟨⟨⟩, q⟩
    · have hde : (detN one.length one).natAbs = (detN other.length other).natAbs := by
        have hc' : (!decide (((detN n one).natAbs : Int) = ((detN other.length other).natAbs : Int))) = false := hc
        rw [hl]
        have : (((detN n one).natAbs : Int)) = ((detN other.length other).natAbs : Int) := by simpa using hc'
        omega
      refine lf_gen rowT (fun r => !hasB one r) other (by omega) (fun r0 h0 u hu R S k1 k2 => ?_) fun r0 h0 p => ?_
      · simp only [wp, puts, List.set_cons_succ, List.set_cons_zero] at h0; subst h0
        exact ⟨nd0, one, n, u, b, rfl, hs, h4, hd, hz, kz u hu, kw u hu, hb, fun hc2 => k1 hc2 _ rfl, fun hc2 => k2 hc2 _ rfl⟩
      · simp only [wp, puts, List.set_cons_succ, List.set_cons_zero] at h0; subst h0
        refine ⟨nvs_map _ _, sz 0, fun p2 => ⟨rfl, ?_⟩⟩
        rw [fz_own p rowT (other.filter fun r => !hasB one r)]
        have fl := List.length_filter_le (fun r : List Int => !hasB one r) other
        refine ⟨nest_shaped (nest_rows (by omega) fun r hr => by have := kw r (List.mem_filter.mp hr).1; omega) (by decide), shp_nilL, ⟨⟩, ?_⟩
        show Q (.d (.bool (PyData.eqv (.list ((other.filter fun r => !hasB one r).map rowT)) (.list [])))) _
        rw [eqv_map_nil]
        have e : decide ((other.filter fun r => !hasB one r) = []) = sameB one other := by
          unfold sameB
          rw [hlat, decide_eq_true he, decide_eq_true hde, Bool.and_self, Bool.and_self, Bool.true_and]
          refine decide_eq_decide.mpr ?_
          rw [filter_none]
          exact ⟨fun h r hr => by simpa using h r hr, fun h r hr => by rw [h r hr]; rfl⟩
        rw [e]
        exact q
theorem hasB_of {n : Nat} {rows : Mat} {r : List Int} (h4 : n ≤ 4) (hs : Sq n n rows) (h : Span n rows r) : hasB rows r = true := by
  unfold hasB
  have hl := hs.1
  rw [decide_eq_true (by rw [h.len hs, hl]), Bool.true_and, hl]
  exact decide_eq_true fun i hi => h.dvd h4 hs hi
theorem sameB_of {n : Nat} {rows rows' : Mat} (h4 : n ≤ 4) (hs : Sq n n rows) (n0 : 0 < n) (hd : detN n rows ≠ 0) (hs' : Sq n n rows') (hd' : (detN n rows').natAbs = (detN n rows).natAbs) (h : ∀ r ∈ rows', Span n rows r) : sameB rows rows' = true := by
  have hl := hs.1
  have hl' := hs'.1
  unfold sameB latB
  rw [sqB_iff.mpr ⟨by omega, by rw [hl']; exact hs'⟩, hl, hl', decide_eq_true rfl, decide_eq_true hd'.symm, decide_eq_true (show detN n rows' ≠ 0 by omega), decide_eq_true fun r hr => hasB_of h4 hs (h r hr)]
  rfl
theorem Stand.sz {n b : Nat} {rows0 rows : Mat} (h4 : n ≤ 4) (h0 : Sq n n rows0) (hz : ∀ r ∈ rows0, SzL b r) (h : Stand n rows0 rows) : ∀ r ∈ rows, SzL (n * (b + 2) + 1) r := by
  have hl := h.st.sq.1
  have hd := det_sz b n rows0 h4 h0 hz
  have hp := h.st.prod
  have pow1 : 0 < 2 ^ (n * (b + 2)) := Nat.pow_pos (by decide)
  have dle : ∀ (o : Nat) (l : Mat), (∀ (i : Nat) (r : List Int), l[i]? = some r → 0 < r.getD (o + i) 0) → 1 ≤ prodD o l ∧ ∀ (i : Nat) (r : List Int), l[i]? = some r → r.getD (o + i) 0 ≤ prodD o l := by
    intro o l
    induction l generalizing o with
    | nil => intro _; exact ⟨by show (1 : Int) ≤ 1; decide, fun i r hi => by simp at hi⟩
    | cons x l ih =>
      intro hx
      obtain ⟨i1, i2⟩ := ih (o + 1) fun i r hi => by
        have := hx (i + 1) r (by simpa using hi)
        rw [show o + 1 + i = o + (i + 1) by omega]
        exact this
      have x0 : 0 < x.getD o 0 := hx 0 x rfl
      have e1 : x.getD o 0 ≤ x.getD o 0 * prodD (o + 1) l := by
        have := Int.mul_le_mul_of_nonneg_left i1 (Int.le_of_lt x0)
        omega
      have e2 : prodD (o + 1) l ≤ x.getD o 0 * prodD (o + 1) l := by
        have := Int.mul_le_mul_of_nonneg_right (show 1 ≤ x.getD o 0 by omega) (show 0 ≤ prodD (o + 1) l by omega)
        omega
      refine ⟨by show 1 ≤ x.getD o 0 * prodD (o + 1) l; omega, fun i r hi => ?_⟩
      show _ ≤ x.getD o 0 * prodD (o + 1) l
      match i, hi with
      | 0, hi =>
        have : x = r := by simpa using hi
        subst this
        exact e1
      | i + 1, hi =>
        have := i2 i r (by simpa using hi)
        rw [show o + (i + 1) = o + 1 + i by omega]
        omega
  obtain ⟨p1, p2⟩ := dle 0 rows fun i r hi => by rw [Nat.zero_add]; exact h.pos i r hi
  intro r hr c
  obtain ⟨i, hi⟩ := List.getElem?_of_mem hr
  have li := (List.getElem?_eq_some_iff.mp hi).1
  have lr := h.st.sq.2 r hr
  unfold Sz
  rw [Nat.pow_succ]
  rcases Nat.lt_trichotomy c i with c1 | c1 | c1
  · rw [h.st.tri i r hi c (by omega)]; simp; omega
  · subst c1
    have := p2 c r hi
    rw [Nat.zero_add] at this
    have := h.pos c r hi
    omega
  · by_cases cn : c < n
    · obtain ⟨s, hs⟩ : ∃ s, rows[c]? = some s := ⟨_, List.getElem?_eq_getElem (by omega)⟩
      have r1 := h.red i c r s hi hs c1
      have := p2 c s hs
      rw [Nat.zero_add] at this
      omega
    · rw [getD_big (by omega)]; simp; omega
def L1_law_16 : TS3 := (xFor (xR1 (xC (.int 2))) (xGName 1) (xSeq (xAsg (xCall sp_law_rows_1 xNoE (xArg (xView 0) (xArg (x2 kMul (xC (.int 200)) (xView 1)) (xArg (xC (.int 1)) xANil)))) (xGName 2))
  (xIfS (xTest (x2 kNeI (xFz (xCall (sp_law_determinant 8) xNoE (xArg (xView 2) xANil))) (xC (.int 0)))) (xSeq (xAsg (xCall sp_standing xNoE (xArg (xView 2) xANil)) (xGName 3))
  (xIfS (xOr (xNot (xTest (x1 (cIsi "tuple") (xView 3)))) (xOr (xNot (xTest (xFz (xCall sp_law_same_3 xNoE (xArg (xView 2) (xArg (xView 3) xANil)))))) (xNot (xTest (xFz (xCall sp_law_stand xNoE (xArg (xView 3) xANil))))))) (xRet (xD (xC (.bool false)))) xNext)) xNext)))
def N_law_16 : List Str := ["_law_script", "_law_k", "_law_rows_here", "_law_found"]
def body_law_16 : TS3 := (xSeq L1_law_16
  (xRet (xD (xC (.bool true)))))

theorem v_law_16 (ts Q E) (h : spLaw ts Q E) : body_law_16 { nx := fun r => finOk ts r ∧ Q (.d .none) (finF ts r), rt := fun x r => finOk ts r ∧ Q x (finF ts r) } (start3 N_law_16 ts) := by
  obtain ⟨a, ns, rfl, hl, q⟩ := h
  have hb2 : 1000 < sizeLine := by decide
  refine ⟨by decide, by decide, fun i r => ∃ s1 s2 s3, r = [some (.sc a ns), s1, s2, s3], ⟨_, _, _, rfl⟩, fun i x r hx hW => ?_, fun r hW => ?_⟩
  · obtain ⟨s1, s2, s3, rfl⟩ := hW
    obtain ⟨hi, rfl⟩ := rangeI_get hx
    have hi2 : i < 2 := hi
    refine ⟨mulOkL (by decide) (by decide), nd0, a, ns, _, 1, rfl, hl, by omega, by omega, by decide, by decide, fun rows n hs n0 h4 hz => ?_⟩
    refine ⟨nd0, rows, n, 240, rfl, hs, by omega, h4, hz, by decide, fun hc => ?_, fun _ => ⟨_, _, _, rfl⟩⟩
    have hd : detN n rows ≠ 0 := by
      have : (!decide (detN n rows = 0)) = true := hc
      simpa using this
    have hll := hs.1
    have hlat : latB rows = true := by
      unfold latB
      rw [sqB_iff.mpr ⟨by omega, by rw [hll]; exact hs⟩, hll, decide_eq_true hd]; rfl
    refine ⟨nd0, rows, 240, rfl, by omega, hlat, hz, by decide, fun rows' hst => ?_⟩
    rw [hll] at hst
    have hz' := hst.sz h4 hs hz
    have hl' := hst.st.sq.1
    have big : n * (240 + 2) + 1 ≤ 1000 := by
      have : n * (240 + 2) ≤ 4 * 242 := Nat.mul_le_mul h4 (by omega)
      omega
    refine ⟨nofun, fun _ => ⟨nd0, rows, n, rows', 1000, rfl, hs, h4, hd, fun r hr => (hz r hr).mono (by decide), by omega, fun r hr => by rw [hst.st.sq.2 r hr]; omega, fun r hr => (hz' r hr).mono big, by decide, fun hc => ?_, fun _ => ⟨nd0, rows', n, rows, rfl, h4, hst, nofun, fun _ => ⟨_, _, _, rfl⟩⟩⟩⟩
    have hc' : (!sameB rows rows') = true := hc
    rw [sameB_of h4 hs n0 hd hst.st.sq hst.st.dt hst.st.sp] at hc'
    cases hc'
  · obtain ⟨s1, s2, s3, rfl⟩ := hW
    exact ⟨⟨⟩, q _⟩
end L3
namespace K_k16
open PySem PySem.Spec PyProof.Rows L2 L3
def topS (i : Nat) : Stmt := PySem.Challenge.pw_underone_k16_standing_rows.main.body.getD i (.Pass ⟨0, 0, 0, 0⟩)
abbrev s_law_determinant : Stmt := topS 15
theorem sc_law_determinant : FnScope N_law_determinant ["_law_rows_here"] (defScope s_law_determinant) := ⟨rfl, rfl, rfl, by decide +kernel, rfl, by decide +kernel, by decide +kernel⟩
abbrev s_law_number_1 : Stmt := topS 12
theorem sc_law_number_1 : FnScope N_law_number_1 ["_law_script", "_law_k"] (defScope s_law_number_1) := ⟨rfl, rfl, rfl, by decide +kernel, rfl, by decide +kernel, by decide +kernel⟩
abbrev s_law_great_1 : Stmt := topS 13
theorem sc_law_great_1 : FnScope N_law_great_1 ["_law_script", "_law_k", "_law_groups"] (defScope s_law_great_1) := ⟨rfl, rfl, rfl, by decide +kernel, rfl, by decide +kernel, by decide +kernel⟩
abbrev s_law_rows_1 : Stmt := topS 14
theorem sc_law_rows_1 : FnScope N_law_rows_1 ["_law_script", "_law_start", "_law_wide"] (defScope s_law_rows_1) := ⟨rfl, rfl, rfl, by decide +kernel, rfl, by decide +kernel, by decide +kernel⟩
abbrev s_law_in : Stmt := topS 16
theorem sc_law_in : FnScope N_law_in ["_law_rows_here", "_law_row"] (defScope s_law_in) := ⟨rfl, rfl, rfl, by decide +kernel, rfl, by decide +kernel, by decide +kernel⟩
abbrev s_law_has_1 : Stmt := topS 18
theorem sc_law_has_1 : FnScope N_law_has_1 ["_law_rows_here", "_law_row"] (defScope s_law_has_1) := ⟨rfl, rfl, rfl, by decide +kernel, rfl, by decide +kernel, by decide +kernel⟩
abbrev s_law_is_lattice_1 : Stmt := topS 17
theorem sc_law_is_lattice_1 : FnScope N_law_is_lattice_1 ["_law_rows_here"] (defScope s_law_is_lattice_1) := ⟨rfl, rfl, rfl, by decide +kernel, rfl, by decide +kernel, by decide +kernel⟩
abbrev s_law_same_3 : Stmt := topS 19
theorem sc_law_same_3 : FnScope N_law_same_3 ["_law_one", "_law_other"] (defScope s_law_same_3) := ⟨rfl, rfl, rfl, by decide +kernel, rfl, by decide +kernel, by decide +kernel⟩
abbrev s_law_stand : Stmt := topS 20
theorem sc_law_stand : FnScope N_law_stand ["_law_found"] (defScope s_law_stand) := ⟨rfl, rfl, rfl, by decide +kernel, rfl, by decide +kernel, by decide +kernel⟩
abbrev s_is_square : Stmt := topS 5
theorem sc_is_square : FnScope N_is_square ["rows"] (defScope s_is_square) := ⟨rfl, rfl, rfl, by decide +kernel, rfl, by decide +kernel, by decide +kernel⟩
abbrev s_taken_off : Stmt := topS 4
theorem sc_taken_off : FnScope N_taken_off ["row", "many", "other"] (defScope s_taken_off) := ⟨rfl, rfl, rfl, by decide +kernel, rfl, by decide +kernel, by decide +kernel⟩
abbrev s_stepped : Stmt := topS 6
theorem sc_stepped : FnScope N_stepped ["rows"] (defScope s_stepped) := ⟨rfl, rfl, rfl, by decide +kernel, rfl, by decide +kernel, by decide +kernel⟩
abbrev s_measure_of : Stmt := topS 7
theorem sc_measure_of : FnScope N_measure_of ["rows"] (defScope s_measure_of) := ⟨rfl, rfl, rfl, by decide +kernel, rfl, by decide +kernel, by decide +kernel⟩
abbrev s_is_lattice : Stmt := topS 8
theorem sc_is_lattice : FnScope N_is_lattice ["rows"] (defScope s_is_lattice) := ⟨rfl, rfl, rfl, by decide +kernel, rfl, by decide +kernel, by decide +kernel⟩
abbrev s_need_lattice : Stmt := topS 9
theorem sc_need_lattice : FnScope N_need_lattice ["rows"] (defScope s_need_lattice) := ⟨rfl, rfl, rfl, by decide +kernel, rfl, by decide +kernel, by decide +kernel⟩
abbrev s_standing : Stmt := topS 10
theorem sc_standing : FnScope N_standing ["rows"] (defScope s_standing) := ⟨rfl, rfl, rfl, by decide +kernel, rfl, by decide +kernel, by decide +kernel⟩
abbrev s_law_16 : Stmt := topS 21
theorem sc_law_16 : FnScope N_law_16 ["_law_script"] (defScope s_law_16) := ⟨rfl, rfl, rfl, by decide +kernel, rfl, by decide +kernel, by decide +kernel⟩
section
variable {P : Program} {w : World} {K : PySem.W.Frag} {mg : Str → Option Value} {base : Heap}
theorem ok_law_determinant {f : Addr} {fd : FuncData} {k : Nat} (n : Nat) (F : Fun K "_law_determinant" "_law_determinant" s_law_determinant f fd) (B_enumerate : mg "enumerate" = none) (B_tuple : mg "tuple" = none) (C_law_determinant : Cal P w K mg base "_law_determinant" k ["_law_rows_here"] (sp_law_determinant n)) : FnOk P w K mg base CX0 (k + 1) f fd ["_law_rows_here"] (lift K (sp_law_determinant (n + 1))) :=
  ok3 F sc_law_determinant (fun ts Q E h => by first | (obtain ⟨rfl, _⟩ := h; rfl) | (obtain ⟨_, rfl, _⟩ := h; rfl) | (obtain ⟨_, _, rfl, _⟩ := h; rfl) | (obtain ⟨_, _, _, rfl, _⟩ := h; rfl) | (obtain ⟨_, _, _, _, rfl, _⟩ := h; rfl) | (obtain ⟨_, _, _, _, _, rfl, _⟩ := h; rfl) | (obtain ⟨_, _, _, _, _, _, rfl, _⟩ := h; rfl) | (obtain ⟨_, _, _, _, _, _, _, rfl, _⟩ := h; rfl)) (fun cdv A outer s H E hr => ⟨body_law_determinant (sp_law_determinant n), (b3_cons (m3_if (t3_eq hr.units (r3_name 0) (r3 (p3_tup pa3_nil))) (b3_one (m3_ret (p3 r3_int))) b3_nil)
      (b3_cons (m3_set 1 (p3 r3_int) sc_law_determinant.nd)
      (b3_cons (m3_for PassesOwn.never rfl (i3_enumX (by rfl) B_enumerate (r3_ix (r3_name 0) r3_int)) (g3_tup (n := 2) rfl (gs3_cons (g3_name 2 sc_law_determinant.nd) (gs3_cons (g3_name 3 sc_law_determinant.nd) gs3_nil))) (b3_one (m3_if (t3_neI (r3_name 3) r3_int) (b3_cons (m3_set 4 (p3 (r3_tuple (by rfl) B_tuple (r3 (p3_lc (own := [("_law_row", 5)]) (js := [5]) rfl sc_law_determinant.nd (i3_seq (r3 (p3_sl (r3_name 0) (po3_some r3_int) po3_none))) (blkOk_by (N := N_law_determinant) (sc := defScope s_law_determinant) (by decide +kernel)) (by decide) (fun _ _ _ _ _ => (g3_name 5 sc_law_determinant.nd)) (fun _ _ _ _ _ => ts3_nil) (fun _ _ _ _ _ => (p3_add (r3 (p3_sl (r3_name 5) po3_none (po3_some (r3_name 2)))) (r3 (p3_sl (r3_name 5) (po3_some (r3_add (r3_name 2) r3_int)) po3_none)))))))) sc_law_determinant.nd)
      (b3_one (m3_set 1 (p3 (r3_add (r3_name 1) (r3_mul (r3_mul (r3_name 3) (r3_ix (r3 (p3_lst (pa3_cons (p3 r3_int) (pa3_cons (p3 (r3_neg r3_int)) pa3_nil)))) (r3_mod (r3_name 2) r3_int))) (r3 (p3_cal C_law_determinant hr (by rfl) (c3_val (r3_name 4) c3_nil)))))) sc_law_determinant.nd))) b3_nil)))
      (b3_one (m3_ret (p3_move 1)))))), v_law_determinant n⟩)
theorem okn_law_determinant {f : Addr} {fd : FuncData} {k : Nat} (F : Fun K "_law_determinant" "_law_determinant" s_law_determinant f fd) (hm : mg "_law_determinant" = some (.ref f)) (hk : PySem.W.keepIn K (.ref f) = true) (hb : Binds K fd ["_law_rows_here"] []) (B_enumerate : mg "enumerate" = none) (B_tuple : mg "tuple" = none) (z0 : ∀ ts Q E, sp_law_determinant 0 ts Q E → False) : ∀ n, FnOk P w K mg base CX0 (k + n + 1) f fd ["_law_rows_here"] (lift K (sp_law_determinant n))
  | 0 => ok0 F sc_law_determinant z0
  | n + 1 => ok_law_determinant n F B_enumerate B_tuple ⟨f, fd, okn_law_determinant F hm hk hb B_enumerate B_tuple z0 n, hm, hk, hb⟩
theorem ok_law_number_1 {f : Addr} {fd : FuncData} {k : Nat} (F : Fun K "_law_number" "_law_number" s_law_number_1 f fd) (B_len : mg "len" = none) (B_list : mg "list" = none) (B_max : mg "max" = none) (B_min : mg "min" = none) (B_range : mg "range" = none) : FnOk P w K mg base CX0 (k + 1) f fd ["_law_script", "_law_k"] (lift K sp_law_number_1) :=
  ok3 F sc_law_number_1 (fun ts Q E h => by first | (obtain ⟨rfl, _⟩ := h; rfl) | (obtain ⟨_, rfl, _⟩ := h; rfl) | (obtain ⟨_, _, rfl, _⟩ := h; rfl) | (obtain ⟨_, _, _, rfl, _⟩ := h; rfl) | (obtain ⟨_, _, _, _, rfl, _⟩ := h; rfl) | (obtain ⟨_, _, _, _, _, rfl, _⟩ := h; rfl) | (obtain ⟨_, _, _, _, _, _, rfl, _⟩ := h; rfl) | (obtain ⟨_, _, _, _, _, _, _, rfl, _⟩ := h; rfl)) (fun cdv A outer s H E hr => ⟨body_law_number_1, (b3_cons (m3_set 2 (p3_add (r3 (p3_list (by rfl) B_list (r3_name 0))) (r3 (p3_lst (pa3_cons (p3 r3_int) pa3_nil)))) sc_law_number_1.nd)
      (b3_cons (m3_set 3 (p3 (r3_max2 rfl (by rfl) B_max r3_int (r3_len (by rfl) B_len (r3_name 0)))) sc_law_number_1.nd)
      (b3_cons (m3_set 4 (p3 (r3_ix (r3_name 2) (r3_mod (r3_name 1) (r3_name 3)))) sc_law_number_1.nd)
      (b3_cons (m3_set 5 (p3 (r3_fdiv (r3_name 1) (r3_name 3))) sc_law_number_1.nd)
      (b3_cons (m3_set 6 (p3_move 4) sc_law_number_1.nd)
      (b3_cons (m3_for PassesOwn.never rfl (i3_range1 (by rfl) B_range (r3_min2 rfl (by rfl) B_min (r3_name 5) r3_int)) (g3_name 7 sc_law_number_1.nd) (b3_one (m3_set 6 (p3 (r3_fdiv (r3_name 6) r3_int)) sc_law_number_1.nd)))
      (b3_cons (m3_if (t3_w (w3_and (t3_ge (r3_name 4) (r3_pow r3_int r3_int)) (w3_and (t3_lt (r3_name 5) r3_int) (w3_and1 (t3_gt (r3_name 6) r3_int))))) (b3_one (m3_ret (p3 (r3_mod (r3_name 6) r3_int)))) b3_nil)
      (b3_cons (m3_set 8 (p3 (r3_mod (r3_mul (r3_add (r3_add (r3_add (r3_mod (r3_name 4) r3_int) r3_int) (r3_mul r3_int (r3_name 5))) (r3_mul r3_int (r3_name 1))) r3_int) r3_int)) sc_law_number_1.nd)
      (b3_cons (m3_set 8 (p3 (r3_mod (r3_add (r3_add (r3_mul (r3_name 8) (r3_name 8)) (r3_mul r3_int (r3_name 5))) (r3_mul r3_int (r3_name 1))) r3_int)) sc_law_number_1.nd)
      (b3_one (m3_ret (p3 (r3_mod (r3_fdiv (r3_mod (r3_mul (r3_name 8) r3_int) r3_int) r3_int) r3_int))))))))))))), v_law_number_1⟩)
theorem ok_law_great_1 {f : Addr} {fd : FuncData} {k : Nat} (F : Fun K "_law_great" "_law_great" s_law_great_1 f fd) (B_range : mg "range" = none) (C_law_number_1 : Cal P w K mg base "_law_number" k ["_law_script", "_law_k"] sp_law_number_1) : FnOk P w K mg base CX0 (k + 1) f fd ["_law_script", "_law_k", "_law_groups"] (lift K sp_law_great_1) :=
  ok3 F sc_law_great_1 (fun ts Q E h => by first | (obtain ⟨rfl, _⟩ := h; rfl) | (obtain ⟨_, rfl, _⟩ := h; rfl) | (obtain ⟨_, _, rfl, _⟩ := h; rfl) | (obtain ⟨_, _, _, rfl, _⟩ := h; rfl) | (obtain ⟨_, _, _, _, rfl, _⟩ := h; rfl) | (obtain ⟨_, _, _, _, _, rfl, _⟩ := h; rfl) | (obtain ⟨_, _, _, _, _, _, rfl, _⟩ := h; rfl) | (obtain ⟨_, _, _, _, _, _, _, rfl, _⟩ := h; rfl)) (fun cdv A outer s H E hr => ⟨body_law_great_1, (b3_cons (m3_set 3 (p3_cal C_law_number_1 hr (by rfl) (c3_val (r3_name 0) (c3_val (r3_name 1) c3_nil))) sc_law_great_1.nd)
      (b3_cons (m3_set 4 (p3 (r3_ix (r3 (p3_lst (pa3_cons (p3 r3_int) (pa3_cons (p3 (r3_neg r3_int)) pa3_nil)))) (r3_mod (r3_fdiv (r3_name 3) r3_int) r3_int))) sc_law_great_1.nd)
      (b3_cons (m3_if (t3_eqI (r3_mod (r3_name 3) r3_int) r3_int) (b3_one (m3_ret (p3 (r3_mul (r3_mod (r3_fdiv (r3_name 3) r3_int) r3_int) (r3_name 4))))) b3_nil)
      (b3_cons (m3_if (t3_eqI (r3_mod (r3_name 3) r3_int) r3_int) (b3_one (m3_ret (p3 (r3_mul (r3 (p3_cal C_law_number_1 hr (by rfl) (c3_val (r3_name 0) (c3_val (r3_add (r3_name 1) r3_int) c3_nil)))) (r3_name 4))))) b3_nil)
      (b3_cons (m3_set 5 (p3 r3_int) sc_law_great_1.nd)
      (b3_cons (m3_for PassesOwn.never rfl (i3_range1 (by rfl) B_range (r3_add r3_int (r3_mod (r3_fdiv (r3_name 3) r3_int) (r3_name 2)))) (g3_name 6 sc_law_great_1.nd) (b3_one (m3_set 5 (p3 (r3_add (r3_mul (r3_name 5) (r3_pow r3_int r3_int)) (r3 (p3_cal C_law_number_1 hr (by rfl) (c3_val (r3_name 0) (c3_val (r3_add (r3_add (r3_name 1) r3_int) (r3_name 6)) c3_nil)))))) sc_law_great_1.nd)))
      (b3_one (m3_ret (p3 (r3_mul (r3_name 5) (r3_name 4))))))))))), v_law_great_1⟩)
theorem ok_law_rows_1 {f : Addr} {fd : FuncData} {k : Nat} (F : Fun K "_law_rows" "_law_rows" s_law_rows_1 f fd) (B_int : mg "int" = none) (B_range : mg "range" = none) (B_tuple : mg "tuple" = none) (B_zip : mg "zip" = none) (C_law_great_1 : Cal P w K mg base "_law_great" k ["_law_script", "_law_k", "_law_groups"] sp_law_great_1) (C_law_number_1 : Cal P w K mg base "_law_number" k ["_law_script", "_law_k"] sp_law_number_1) : FnOk P w K mg base CX0 (k + 1) f fd ["_law_script", "_law_start", "_law_wide"] (lift K sp_law_rows_1) :=
  ok3 F sc_law_rows_1 (fun ts Q E h => by first | (obtain ⟨rfl, _⟩ := h; rfl) | (obtain ⟨_, rfl, _⟩ := h; rfl) | (obtain ⟨_, _, rfl, _⟩ := h; rfl) | (obtain ⟨_, _, _, rfl, _⟩ := h; rfl) | (obtain ⟨_, _, _, _, rfl, _⟩ := h; rfl) | (obtain ⟨_, _, _, _, _, rfl, _⟩ := h; rfl) | (obtain ⟨_, _, _, _, _, _, rfl, _⟩ := h; rfl) | (obtain ⟨_, _, _, _, _, _, _, rfl, _⟩ := h; rfl)) (fun cdv A outer s H E hr => ⟨body_law_rows_1, (b3_cons (m3_set 3 (p3_cal C_law_number_1 hr (by rfl) (c3_val (r3_name 0) (c3_val (r3_name 1) c3_nil))) sc_law_rows_1.nd)
      (b3_cons (m3_set 4 (p3 (r3_add r3_int (r3_mod (r3_name 3) r3_int))) sc_law_rows_1.nd)
      (b3_cons (m3_set 5 (p3 (r3_mod (r3_fdiv (r3_name 3) r3_int) r3_int)) sc_law_rows_1.nd)
      (b3_cons (m3_set 6 (p3_lst pa3_nil) sc_law_rows_1.nd)
      (b3_cons (m3_for PassesOwn.never rfl (i3_range1 (by rfl) B_range (r3_name 4)) (g3_name 7 sc_law_rows_1.nd) (b3_cons (m3_set 8 (p3_lst pa3_nil) sc_law_rows_1.nd)
      (b3_cons (m3_for PassesOwn.never rfl (i3_range1 (by rfl) B_range (r3_name 4)) (g3_name 9 sc_law_rows_1.nd) (b3_cons (m3_set 10 (p3_cal C_law_number_1 hr (by rfl) (c3_val (r3_name 0) (c3_val (r3_add (r3_add (r3_add (r3_name 1) r3_int) (r3_mul r3_int (r3_name 7))) (r3_name 9)) c3_nil))) sc_law_rows_1.nd)
      (b3_cons (m3_set 11 (p3_cal C_law_great_1 hr (by rfl) (c3_val (r3_name 0) (c3_val (r3_add (r3_add (r3_add (r3_name 1) r3_int) (r3_mul r3_int (r3_name 7))) (r3_mul r3_int (r3_name 9))) (c3_val (r3_ix (r3 (p3_lst (pa3_cons (p3 r3_int) (pa3_cons (p3 r3_int) pa3_nil)))) (r3_name 2)) c3_nil)))) sc_law_rows_1.nd)
      (b3_cons (m3_set 12 (p3 (r3_mul (r3_ix (r3 (p3_lst (pa3_cons (p3_move 11) (pa3_cons (p3 (r3_int_ (by rfl) B_int (r3_eq hr.units (r3_name 7) (r3_name 9)))) pa3_nil)))) (r3_int_ (by rfl) B_int (r3_gt (r3_name 7) r3_int))) (r3_ix (r3 (p3_lst (pa3_cons (p3 r3_int) (pa3_cons (p3 (r3_ix (r3 (p3_lst (pa3_cons (p3 (r3_pow r3_int r3_int)) (pa3_cons (p3 (r3_pow r3_int r3_int)) pa3_nil)))) (r3_name 2))) pa3_nil)))) (r3_int_ (by rfl) B_int (r3_gt (r3_name 7) r3_int))))) sc_law_rows_1.nd)
      (b3_cons (m3_set 13 (p3 (r3_mul (r3_sub (r3_sub (r3_ix (r3 (p3_lst (pa3_cons (p3 (r3_pow r3_int r3_int)) (pa3_cons (p3 (r3_pow r3_int r3_int)) pa3_nil)))) (r3_name 2)) r3_int) (r3_name 10)) (r3_ix (r3 (p3_lst (pa3_cons (p3 r3_int) (pa3_cons (p3 (r3_neg r3_int)) pa3_nil)))) (r3_mod (r3_name 10) r3_int)))) sc_law_rows_1.nd)
      (b3_one (m3_expr (p3 (r3 (p3_append 8 (p3 (r3_ix (r3 (p3_lst (pa3_cons (p3 (r3_sub (r3_mod (r3_name 10) r3_int) r3_int)) (pa3_cons (p3_move 11) (pa3_cons (p3 (r3_add (r3_mul (r3_fdiv (r3_mod (r3_name 10) r3_int) r3_int) (r3_name 11)) (r3_int_ (by rfl) B_int (r3_eq hr.units (r3_name 7) (r3_name 9))))) (pa3_cons (p3_move 13) (pa3_cons (p3_move 12) (pa3_cons (p3 (r3_int_ (by rfl) B_int (r3_eq hr.units (r3_name 7) (r3_name 9)))) pa3_nil)))))))) (r3_name 5)))))))))))))
      (b3_one (m3_expr (p3 (r3 (p3_append 6 (p3 (r3 (p3_move 8)))))))))))
      (b3_cons (m3_set 14 (p3 (r3_ix (r3 (p3_lst (pa3_cons (p3 r3_int) (pa3_cons (p3 r3_int) (pa3_cons (p3 r3_int) (pa3_cons (p3 r3_int) (pa3_cons (p3 r3_int) (pa3_cons (p3 (r3_add r3_int (r3_mod (r3_fdiv (r3_name 3) r3_int) (r3_ix (r3 (p3_lst (pa3_cons (p3 r3_int) (pa3_cons (p3 r3_int) pa3_nil)))) (r3_name 2))))) pa3_nil)))))))) (r3_name 5))) sc_law_rows_1.nd)
      (b3_cons (m3_for PassesOwn.never rfl (i3_range1 (by rfl) B_range (r3_name 14)) (g3_name 15 sc_law_rows_1.nd) (b3_cons (m3_set 10 (p3_cal C_law_number_1 hr (by rfl) (c3_val (r3_name 0) (c3_val (r3_add (r3_add (r3_name 1) r3_int) (r3_name 15)) c3_nil))) sc_law_rows_1.nd)
      (b3_cons (m3_set 16 (p3 (r3_mod (r3_name 10) (r3_name 4))) sc_law_rows_1.nd)
      (b3_cons (m3_set 17 (p3 (r3_mod (r3_fdiv (r3_name 10) r3_int) (r3_name 4))) sc_law_rows_1.nd)
      (b3_cons (m3_set 18 (p3 (r3_sub (r3_mod (r3_fdiv (r3_name 10) r3_int) r3_int) r3_int)) sc_law_rows_1.nd)
      (b3_cons (m3_if (t3_eq hr.units (r3_name 16) (r3_name 17)) (b3_one (m3_set 18 (p3 (r3_ix (r3 (p3_lst (pa3_cons (p3 r3_int) (pa3_cons (p3 (r3_neg r3_int)) (pa3_cons (p3 r3_int) pa3_nil))))) (r3_mod (r3_fdiv (r3_name 10) r3_int) r3_int))) sc_law_rows_1.nd)) b3_nil)
      (b3_one (m3_asg (p3 (r3 (p3_lc (own := [("_law_left", 19), ("_law_right", 20)]) (js := [19, 20]) rfl sc_law_rows_1.nd (i3_zipX (by rfl) B_zip (r3_ix (r3_name 6) (r3_name 16)) (r3_ix (r3_name 6) (r3_name 17))) (blkOk_by (N := N_law_rows_1) (sc := defScope s_law_rows_1) (by decide +kernel)) (by decide) (fun _ _ _ _ _ => (g3_tup (n := 2) rfl (gs3_cons (g3_name 19 sc_law_rows_1.nd) (gs3_cons (g3_name 20 sc_law_rows_1.nd) gs3_nil)))) (fun _ _ _ _ _ => ts3_nil) (fun _ _ _ _ _ => (p3 (r3_add (r3_name 19) (r3_mul (r3_name 18) (r3_name 20)))))))) (g3_sub 6 (r3_name 16))))))))))
      (b3_one (m3_ret (p3 (r3_tuple (by rfl) B_tuple (r3 (p3_lc (own := [("_law_row", 8)]) (js := [8]) rfl sc_law_rows_1.nd (i3_seq (r3 (p3_move 6))) (blkOk_by (N := N_law_rows_1) (sc := defScope s_law_rows_1) (by decide +kernel)) (by decide) (fun _ _ _ _ _ => (g3_name 8 sc_law_rows_1.nd)) (fun _ _ _ _ _ => ts3_nil) (fun _ _ _ _ _ => (p3 (r3_tuple (by rfl) B_tuple (r3_name 8))))))))))))))))), v_law_rows_1⟩)
theorem ok_law_in {f : Addr} {fd : FuncData} {k : Nat} (F : Fun K "_law_in" "_law_in" s_law_in f fd) (B_len : mg "len" = none) (B_range : mg "range" = none) (C_law_determinant : Cal P w K mg base "_law_determinant" k ["_law_rows_here"] (sp_law_determinant 8)) : FnOk P w K mg base CX0 (k + 1) f fd ["_law_rows_here", "_law_row"] (lift K sp_law_in) :=
  ok3 F sc_law_in (fun ts Q E h => by first | (obtain ⟨rfl, _⟩ := h; rfl) | (obtain ⟨_, rfl, _⟩ := h; rfl) | (obtain ⟨_, _, rfl, _⟩ := h; rfl) | (obtain ⟨_, _, _, rfl, _⟩ := h; rfl) | (obtain ⟨_, _, _, _, rfl, _⟩ := h; rfl) | (obtain ⟨_, _, _, _, _, rfl, _⟩ := h; rfl) | (obtain ⟨_, _, _, _, _, _, rfl, _⟩ := h; rfl) | (obtain ⟨_, _, _, _, _, _, _, rfl, _⟩ := h; rfl)) (fun cdv A outer s H E hr => ⟨body_law_in, (b3_cons (m3_set 2 (p3_lst pa3_nil) sc_law_in.nd)
      (b3_cons (m3_for PassesOwn.never rfl (i3_range1 (by rfl) B_range (r3_len (by rfl) B_len (r3_name 0))) (g3_name 3 sc_law_in.nd) (b3_one (m3_expr (p3_append 2 (p3_cal C_law_determinant hr (by rfl) (c3_val (r3 (p3_add (r3 (p3_add (r3 (p3_sl (r3_name 0) po3_none (po3_some (r3_name 3)))) (r3 (p3_tup (pa3_cons (p3_move 1) pa3_nil))))) (r3 (p3_sl (r3_name 0) (po3_some (r3_add (r3_name 3) r3_int)) po3_none)))) c3_nil))))))
      (b3_one (m3_ret (p3_move 2))))), v_law_in⟩)
theorem ok_law_has_1 {f : Addr} {fd : FuncData} {k : Nat} (F : Fun K "_law_has" "_law_has" s_law_has_1 f fd) (B_len : mg "len" = none) (C_law_determinant : Cal P w K mg base "_law_determinant" k ["_law_rows_here"] (sp_law_determinant 8)) (C_law_in : Cal P w K mg base "_law_in" k ["_law_rows_here", "_law_row"] sp_law_in) : FnOk P w K mg base CX0 (k + 1) f fd ["_law_rows_here", "_law_row"] (lift K sp_law_has_1) :=
  ok3 F sc_law_has_1 (fun ts Q E h => by first | (obtain ⟨rfl, _⟩ := h; rfl) | (obtain ⟨_, rfl, _⟩ := h; rfl) | (obtain ⟨_, _, rfl, _⟩ := h; rfl) | (obtain ⟨_, _, _, rfl, _⟩ := h; rfl) | (obtain ⟨_, _, _, _, rfl, _⟩ := h; rfl) | (obtain ⟨_, _, _, _, _, rfl, _⟩ := h; rfl) | (obtain ⟨_, _, _, _, _, _, rfl, _⟩ := h; rfl) | (obtain ⟨_, _, _, _, _, _, _, rfl, _⟩ := h; rfl)) (fun cdv A outer s H E hr => ⟨body_law_has_1, (b3_cons (m3_set 2 (p3_cal C_law_determinant hr (by rfl) (c3_val (r3_name 0) c3_nil)) sc_law_has_1.nd)
      (b3_one (m3_ret (p3 (r3_and (r3_eqI (r3_len (by rfl) B_len (r3_name 1)) (r3_len (by rfl) B_len (r3_name 0))) (r3_one (r3_eq hr.units (r3 (p3_lc (own := [("_law_one", 3)]) (js := [3]) rfl sc_law_has_1.nd (i3_seq (r3 (p3_cal C_law_in hr (by rfl) (c3_val (r3_name 0) (c3_val (r3_name 1) c3_nil))))) (blkOk_by (N := N_law_has_1) (sc := defScope s_law_has_1) (by decide +kernel)) (by decide) (fun _ _ _ _ _ => (g3_name 3 sc_law_has_1.nd)) (fun _ _ _ _ _ => (ts3_one (t3_neI (r3_modF (r3_name 3) (r3_name 2)) r3_int))) (fun _ _ _ _ _ => (p3_move 3)))) (r3 (p3_lst pa3_nil))))))))), v_law_has_1⟩)
theorem ok_law_is_lattice_1 {f : Addr} {fd : FuncData} {k : Nat} (F : Fun K "_law_is_lattice" "_law_is_lattice" s_law_is_lattice_1 f fd) (B_len : mg "len" = none) (C_law_determinant : Cal P w K mg base "_law_determinant" k ["_law_rows_here"] (sp_law_determinant 8)) : FnOk P w K mg base CX0 (k + 1) f fd ["_law_rows_here"] (lift K sp_law_is_lattice_1) :=
  ok3 F sc_law_is_lattice_1 (fun ts Q E h => by first | (obtain ⟨rfl, _⟩ := h; rfl) | (obtain ⟨_, rfl, _⟩ := h; rfl) | (obtain ⟨_, _, rfl, _⟩ := h; rfl) | (obtain ⟨_, _, _, rfl, _⟩ := h; rfl) | (obtain ⟨_, _, _, _, rfl, _⟩ := h; rfl) | (obtain ⟨_, _, _, _, _, rfl, _⟩ := h; rfl) | (obtain ⟨_, _, _, _, _, _, rfl, _⟩ := h; rfl) | (obtain ⟨_, _, _, _, _, _, _, rfl, _⟩ := h; rfl)) (fun cdv A outer s H E hr => ⟨body_law_is_lattice_1, (b3_cons (m3_if (t3_w (w3_or (t3_eq hr.units (r3_name 0) (r3 (p3_tup pa3_nil))) (w3_or1 (t3_ne hr.units (r3 (p3_lc (own := [("_law_row", 1)]) (js := [1]) rfl sc_law_is_lattice_1.nd (i3_seq (r3_name 0)) (blkOk_by (N := N_law_is_lattice_1) (sc := defScope s_law_is_lattice_1) (by decide +kernel)) (by decide) (fun _ _ _ _ _ => (g3_name 1 sc_law_is_lattice_1.nd)) (fun _ _ _ _ _ => (ts3_one (t3_neI (r3_len (by rfl) B_len (r3_name 1)) (r3_len (by rfl) B_len (r3_name 0))))) (fun _ _ _ _ _ => (p3_move 1)))) (r3 (p3_lst pa3_nil)))))) (b3_one (m3_ret (p3 r3_bool))) b3_nil)
      (b3_one (m3_ret (p3 (r3_neI (r3 (p3_cal C_law_determinant hr (by rfl) (c3_val (r3_name 0) c3_nil))) r3_int))))), v_law_is_lattice_1⟩)
theorem ok_law_same_3 {f : Addr} {fd : FuncData} {k : Nat} (F : Fun K "_law_same" "_law_same" s_law_same_3 f fd) (B_abs : mg "abs" = none) (B_len : mg "len" = none) (C_law_determinant : Cal P w K mg base "_law_determinant" k ["_law_rows_here"] (sp_law_determinant 8)) (C_law_has_1 : Cal P w K mg base "_law_has" k ["_law_rows_here", "_law_row"] sp_law_has_1) (C_law_is_lattice_1 : Cal P w K mg base "_law_is_lattice" k ["_law_rows_here"] sp_law_is_lattice_1) : FnOk P w K mg base CX0 (k + 1) f fd ["_law_one", "_law_other"] (lift K sp_law_same_3) :=
  ok3 F sc_law_same_3 (fun ts Q E h => by first | (obtain ⟨rfl, _⟩ := h; rfl) | (obtain ⟨_, rfl, _⟩ := h; rfl) | (obtain ⟨_, _, rfl, _⟩ := h; rfl) | (obtain ⟨_, _, _, rfl, _⟩ := h; rfl) | (obtain ⟨_, _, _, _, rfl, _⟩ := h; rfl) | (obtain ⟨_, _, _, _, _, rfl, _⟩ := h; rfl) | (obtain ⟨_, _, _, _, _, _, rfl, _⟩ := h; rfl) | (obtain ⟨_, _, _, _, _, _, _, rfl, _⟩ := h; rfl)) (fun cdv A outer s H E hr => ⟨body_law_same_3, (b3_cons (m3_if (t3_w (w3_or (t3_not (t3_val (r3 (p3_cal C_law_is_lattice_1 hr (by rfl) (c3_val (r3_name 1) c3_nil))))) (w3_or1 (t3_neI (r3_len (by rfl) B_len (r3_name 0)) (r3_len (by rfl) B_len (r3_name 1)))))) (b3_one (m3_ret (p3 r3_bool))) b3_nil)
      (b3_cons (m3_if (t3_neI (r3_abs (by rfl) B_abs (r3 (p3_cal C_law_determinant hr (by rfl) (c3_val (r3_name 0) c3_nil)))) (r3_abs (by rfl) B_abs (r3 (p3_cal C_law_determinant hr (by rfl) (c3_val (r3_name 1) c3_nil))))) (b3_one (m3_ret (p3 r3_bool))) b3_nil)
      (b3_one (m3_ret (p3 (r3_eq hr.units (r3 (p3_lc (own := [("_law_row", 2)]) (js := [2]) rfl sc_law_same_3.nd (i3_seq (r3_name 1)) (blkOk_by (N := N_law_same_3) (sc := defScope s_law_same_3) (by decide +kernel)) (by decide) (fun _ _ _ _ _ => (g3_name 2 sc_law_same_3.nd)) (fun _ _ _ _ _ => (ts3_one (t3_not (t3_val (r3 (p3_cal C_law_has_1 hr (by rfl) (c3_val (r3_name 0) (c3_val (r3_name 2) c3_nil)))))))) (fun _ _ _ _ _ => (p3_move 2)))) (r3 (p3_lst pa3_nil)))))))), v_law_same_3⟩)
theorem ok_law_stand {f : Addr} {fd : FuncData} {k : Nat} (F : Fun K "_law_stand" "_law_stand" s_law_stand f fd) (B_bool : mg "bool" = none) (B_enumerate : mg "enumerate" = none) (B_isinstance : mg "isinstance" = none) (B_tuple : mg "tuple" = none) : FnOk P w K mg base CX0 (k + 1) f fd ["_law_found"] (lift K sp_law_stand) :=
  ok3 F sc_law_stand (fun ts Q E h => by first | (obtain ⟨rfl, _⟩ := h; rfl) | (obtain ⟨_, rfl, _⟩ := h; rfl) | (obtain ⟨_, _, rfl, _⟩ := h; rfl) | (obtain ⟨_, _, _, rfl, _⟩ := h; rfl) | (obtain ⟨_, _, _, _, rfl, _⟩ := h; rfl) | (obtain ⟨_, _, _, _, _, rfl, _⟩ := h; rfl) | (obtain ⟨_, _, _, _, _, _, rfl, _⟩ := h; rfl) | (obtain ⟨_, _, _, _, _, _, _, rfl, _⟩ := h; rfl)) (fun cdv A outer s H E hr => ⟨body_law_stand, (b3_cons (m3_for PassesOwn.never rfl (i3_enumX (by rfl) B_enumerate (r3_name 0)) (g3_tup (n := 2) rfl (gs3_cons (g3_name 1 sc_law_stand.nd) (gs3_cons (g3_name 2 sc_law_stand.nd) gs3_nil))) (b3_cons (m3_if (t3_w (w3_or (t3_not (t3_val (r3_isi (b := "tuple") (by rfl) B_isinstance (by rfl) B_tuple (by rfl) (by decide +kernel) (r3_name 2)))) (w3_or1 (t3_ne hr.units (r3 (p3_lc (own := [("_law_number_here", 4)]) (js := [4]) rfl sc_law_stand.nd (i3_seq (r3_name 2)) (blkOk_by (N := N_law_stand) (sc := defScope s_law_stand) (by decide +kernel)) (by decide) (fun _ _ _ _ _ => (g3_name 4 sc_law_stand.nd)) (fun _ _ _ _ _ => (ts3_one (t3_val (r3_isi (b := "bool") (by rfl) B_isinstance (by rfl) B_bool (by rfl) (by decide +kernel) (r3_name 4))))) (fun _ _ _ _ _ => (p3 r3_int)))) (r3 (p3_lst pa3_nil)))))) (b3_one (m3_ret (p3 r3_bool))) b3_nil)
      (b3_cons (m3_if (t3_w (w3_or (t3_ne hr.units (r3 (p3_lc (own := [("_law_number_here", 4)]) (js := [4]) rfl sc_law_stand.nd (i3_seq (r3 (p3_sl (r3_name 2) po3_none (po3_some (r3_name 1))))) (blkOk_by (N := N_law_stand) (sc := defScope s_law_stand) (by decide +kernel)) (by decide) (fun _ _ _ _ _ => (g3_name 4 sc_law_stand.nd)) (fun _ _ _ _ _ => (ts3_one (t3_neI (r3_name 4) r3_int))) (fun _ _ _ _ _ => (p3_move 4)))) (r3 (p3_lst pa3_nil))) (w3_or1 (t3_lt (r3_ix (r3_name 2) (r3_name 1)) r3_int)))) (b3_one (m3_ret (p3 r3_bool))) b3_nil)
      (b3_one (m3_if (t3_ne hr.units (r3 (p3_lc (own := [("_law_above", 3)]) (js := [3]) rfl sc_law_stand.nd (i3_seq (r3 (p3_sl (r3_name 0) po3_none (po3_some (r3_name 1))))) (blkOk_by (N := N_law_stand) (sc := defScope s_law_stand) (by decide +kernel)) (by decide) (fun _ _ _ _ _ => (g3_name 3 sc_law_stand.nd)) (fun _ _ _ _ _ => (ts3_one (t3_not (t3_chain (p := pLe) (q := pLt) op_le op_lt r3_int (r3_ix (r3_name 3) (r3_name 1)) (r3_ix (r3_name 2) (r3_name 1)))))) (fun _ _ _ _ _ => (p3_move 3)))) (r3 (p3_lst pa3_nil))) (b3_one (m3_ret (p3 r3_bool))) b3_nil)))))
      (b3_one (m3_ret (p3 r3_bool)))), v_law_stand⟩)
theorem ok_is_square {f : Addr} {fd : FuncData} {k : Nat} (F : Fun K "is_square" "is_square" s_is_square f fd) (B_len : mg "len" = none) : FnOk P w K mg base CX0 (k + 1) f fd ["rows"] (lift K sp_is_square) :=
  ok3 F sc_is_square (fun ts Q E h => by first | (obtain ⟨rfl, _⟩ := h; rfl) | (obtain ⟨_, rfl, _⟩ := h; rfl) | (obtain ⟨_, _, rfl, _⟩ := h; rfl) | (obtain ⟨_, _, _, rfl, _⟩ := h; rfl) | (obtain ⟨_, _, _, _, rfl, _⟩ := h; rfl) | (obtain ⟨_, _, _, _, _, rfl, _⟩ := h; rfl) | (obtain ⟨_, _, _, _, _, _, rfl, _⟩ := h; rfl) | (obtain ⟨_, _, _, _, _, _, _, rfl, _⟩ := h; rfl)) (fun cdv A outer s H E hr => ⟨body_is_square, (b3_one (m3_ret (p3 (r3_and (r3_gt (r3_len (by rfl) B_len (r3_name 0)) r3_int) (r3_one (r3_eq hr.units (r3 (p3_lc (own := [("row", 1)]) (js := [1]) rfl sc_is_square.nd (i3_seq (r3_name 0)) (blkOk_by (N := N_is_square) (sc := defScope s_is_square) (by decide +kernel)) (by decide) (fun _ _ _ _ _ => (g3_name 1 sc_is_square.nd)) (fun _ _ _ _ _ => (ts3_one (t3_neI (r3_len (by rfl) B_len (r3_name 1)) (r3_len (by rfl) B_len (r3_name 0))))) (fun _ _ _ _ _ => (p3_move 1)))) (r3 (p3_lst pa3_nil)))))))), v_is_square⟩)
theorem ok_taken_off {f : Addr} {fd : FuncData} {k : Nat} (F : Fun K "taken_off" "taken_off" s_taken_off f fd) (B_zip : mg "zip" = none) : FnOk P w K mg base CX0 (k + 1) f fd ["row", "many", "other"] (lift K sp_taken_off) :=
  ok3 F sc_taken_off (fun ts Q E h => by first | (obtain ⟨rfl, _⟩ := h; rfl) | (obtain ⟨_, rfl, _⟩ := h; rfl) | (obtain ⟨_, _, rfl, _⟩ := h; rfl) | (obtain ⟨_, _, _, rfl, _⟩ := h; rfl) | (obtain ⟨_, _, _, _, rfl, _⟩ := h; rfl) | (obtain ⟨_, _, _, _, _, rfl, _⟩ := h; rfl) | (obtain ⟨_, _, _, _, _, _, rfl, _⟩ := h; rfl) | (obtain ⟨_, _, _, _, _, _, _, rfl, _⟩ := h; rfl)) (fun cdv A outer s H E hr => ⟨body_taken_off, (b3_one (m3_ret (p3_lc (own := [("number", 3), ("beside", 4)]) (js := [3, 4]) rfl sc_taken_off.nd (i3_zipX (by rfl) B_zip (r3_name 0) (r3_name 2)) (blkOk_by (N := N_taken_off) (sc := defScope s_taken_off) (by decide +kernel)) (by decide) (fun _ _ _ _ _ => (g3_tup (n := 2) rfl (gs3_cons (g3_name 3 sc_taken_off.nd) (gs3_cons (g3_name 4 sc_taken_off.nd) gs3_nil)))) (fun _ _ _ _ _ => ts3_nil) (fun _ _ _ _ _ => (p3 (r3_sub (r3_name 3) (r3_mul (r3_name 1) (r3_name 4)))))))), v_taken_off⟩)
theorem ok_stepped {f : Addr} {fd : FuncData} {k : Nat} (F : Fun K "stepped" "stepped" s_stepped f fd) (B_len : mg "len" = none) (B_list : mg "list" = none) (B_range : mg "range" = none) (C_taken_off : Cal P w K mg base "taken_off" k ["row", "many", "other"] sp_taken_off) : FnOk P w K mg base CX0 (k + 1) f fd ["rows"] (lift K sp_stepped) :=
  ok3 F sc_stepped (fun ts Q E h => by first | (obtain ⟨rfl, _⟩ := h; rfl) | (obtain ⟨_, rfl, _⟩ := h; rfl) | (obtain ⟨_, _, rfl, _⟩ := h; rfl) | (obtain ⟨_, _, _, rfl, _⟩ := h; rfl) | (obtain ⟨_, _, _, _, rfl, _⟩ := h; rfl) | (obtain ⟨_, _, _, _, _, rfl, _⟩ := h; rfl) | (obtain ⟨_, _, _, _, _, _, rfl, _⟩ := h; rfl) | (obtain ⟨_, _, _, _, _, _, _, rfl, _⟩ := h; rfl)) (fun cdv A outer s H E hr => ⟨body_stepped, (b3_cons (m3_setLc 1 (own := [("row", 5)]) (js := [5]) rfl sc_stepped.nd (i3_seq (r3_name 0)) (blkOk_by (N := N_stepped) (sc := defScope s_stepped) (by decide +kernel)) (by decide) (fun _ _ _ _ _ => (g3_name 5 sc_stepped.nd)) (fun _ _ _ _ _ => ts3_nil) (fun _ _ _ _ _ => (p3 (r3 (p3_list (by rfl) B_list (r3_name 5))))))
      (b3_cons (m3_for PassesOwn.never rfl (i3_range1 (by rfl) B_range (r3_len (by rfl) B_len (r3_name 1))) (g3_name 2 sc_stepped.nd) (b3_cons (m3_for PassesOwn.never rfl (i3_range2 (by rfl) B_range (r3_add (r3_name 2) r3_int) (r3_len (by rfl) B_len (r3_name 1))) (g3_name 3 sc_stepped.nd) (b3_one (m3_while PassesOwn.never (t3_neI (r3_ix (r3_ix (r3_name 1) (r3_name 3)) (r3_name 2)) r3_int) (b3_cons (m3_set 4 (p3 (r3_fdivF (r3_ix (r3_ix (r3_name 1) (r3_name 2)) (r3_name 2)) (r3_ix (r3_ix (r3_name 1) (r3_name 3)) (r3_name 2)))) sc_stepped.nd)
      (b3_one (m3_asg (p3_tup (pa3_cons (p3 (r3_ix (r3_name 1) (r3_name 3))) (pa3_cons (p3 (r3 (p3_cal C_taken_off hr (by rfl) (c3_val (r3_ix (r3_name 1) (r3_name 2)) (c3_val (r3_name 4) (c3_val (r3_ix (r3_name 1) (r3_name 3)) c3_nil)))))) pa3_nil))) (g3_tup (n := 2) rfl (gs3_cons (g3_sub 1 (r3_name 2)) (gs3_cons (g3_sub 1 (r3_name 3)) gs3_nil)))))))))
      (b3_one (m3_if (t3_lt (r3_ix (r3_ix (r3_name 1) (r3_name 2)) (r3_name 2)) r3_int) (b3_one (m3_asg (p3 (r3 (p3_lc (own := [("number", 6)]) (js := [6]) rfl sc_stepped.nd (i3_seq (r3_ix (r3_name 1) (r3_name 2))) (blkOk_by (N := N_stepped) (sc := defScope s_stepped) (by decide +kernel)) (by decide) (fun _ _ _ _ _ => (g3_name 6 sc_stepped.nd)) (fun _ _ _ _ _ => ts3_nil) (fun _ _ _ _ _ => (p3 (r3_sub r3_int (r3_name 6))))))) (g3_sub 1 (r3_name 2)))) b3_nil))))
      (b3_one (m3_ret (p3_move 1))))), v_stepped⟩)
theorem ok_measure_of {f : Addr} {fd : FuncData} {k : Nat} (F : Fun K "measure_of" "measure_of" s_measure_of f fd) (B_enumerate : mg "enumerate" = none) (C_stepped : Cal P w K mg base "stepped" k ["rows"] sp_stepped) : FnOk P w K mg base CX0 (k + 1) f fd ["rows"] (lift K sp_measure_of) :=
  ok3 F sc_measure_of (fun ts Q E h => by first | (obtain ⟨rfl, _⟩ := h; rfl) | (obtain ⟨_, rfl, _⟩ := h; rfl) | (obtain ⟨_, _, rfl, _⟩ := h; rfl) | (obtain ⟨_, _, _, rfl, _⟩ := h; rfl) | (obtain ⟨_, _, _, _, rfl, _⟩ := h; rfl) | (obtain ⟨_, _, _, _, _, rfl, _⟩ := h; rfl) | (obtain ⟨_, _, _, _, _, _, rfl, _⟩ := h; rfl) | (obtain ⟨_, _, _, _, _, _, _, rfl, _⟩ := h; rfl)) (fun cdv A outer s H E hr => ⟨body_measure_of, (b3_cons (m3_set 1 (p3 r3_int) sc_measure_of.nd)
      (b3_cons (m3_for PassesOwn.never rfl (i3_enum (by rfl) B_enumerate (r3 (p3_cal C_stepped hr (by rfl) (c3_val (r3_name 0) c3_nil)))) (g3_tup (n := 2) rfl (gs3_cons (g3_name 2 sc_measure_of.nd) (gs3_cons (g3_name 3 sc_measure_of.nd) gs3_nil))) (b3_one (m3_aug 1 iop_mul3 (r3_ix (r3_name 3) (r3_name 2)) sc_measure_of.nd)))
      (b3_one (m3_ret (p3_move 1))))), v_measure_of⟩)
theorem ok_is_lattice {f : Addr} {fd : FuncData} {k : Nat} (F : Fun K "is_lattice" "is_lattice" s_is_lattice f fd) (C_is_square : Cal P w K mg base "is_square" k ["rows"] sp_is_square) (C_measure_of : Cal P w K mg base "measure_of" k ["rows"] sp_measure_of) : FnOk P w K mg base CX0 (k + 1) f fd ["rows"] (lift K sp_is_lattice) :=
  ok3 F sc_is_lattice (fun ts Q E h => by first | (obtain ⟨rfl, _⟩ := h; rfl) | (obtain ⟨_, rfl, _⟩ := h; rfl) | (obtain ⟨_, _, rfl, _⟩ := h; rfl) | (obtain ⟨_, _, _, rfl, _⟩ := h; rfl) | (obtain ⟨_, _, _, _, rfl, _⟩ := h; rfl) | (obtain ⟨_, _, _, _, _, rfl, _⟩ := h; rfl) | (obtain ⟨_, _, _, _, _, _, rfl, _⟩ := h; rfl) | (obtain ⟨_, _, _, _, _, _, _, rfl, _⟩ := h; rfl)) (fun cdv A outer s H E hr => ⟨body_is_lattice, (b3_one (m3_ret (p3 (r3_and (r3 (p3_cal C_is_square hr (by rfl) (c3_val (r3_name 0) c3_nil))) (r3_one (r3_gt (r3 (p3_cal C_measure_of hr (by rfl) (c3_val (r3_name 0) c3_nil))) r3_int)))))), v_is_lattice⟩)
theorem ok_need_lattice {f : Addr} {fd : FuncData} {k : Nat} (F : Fun K "need_lattice" "need_lattice" s_need_lattice f fd) (C_is_lattice : Cal P w K mg base "is_lattice" k ["rows"] sp_is_lattice) : FnOk P w K mg base CX0 (k + 1) f fd ["rows"] (lift K sp_need_lattice) :=
  ok3 F sc_need_lattice (fun ts Q E h => by first | (obtain ⟨rfl, _⟩ := h; rfl) | (obtain ⟨_, rfl, _⟩ := h; rfl) | (obtain ⟨_, _, rfl, _⟩ := h; rfl) | (obtain ⟨_, _, _, rfl, _⟩ := h; rfl) | (obtain ⟨_, _, _, _, rfl, _⟩ := h; rfl) | (obtain ⟨_, _, _, _, _, rfl, _⟩ := h; rfl) | (obtain ⟨_, _, _, _, _, _, rfl, _⟩ := h; rfl) | (obtain ⟨_, _, _, _, _, _, _, rfl, _⟩ := h; rfl)) (fun cdv A outer s H E hr => ⟨body_need_lattice, (b3_one (m3_if (t3_not (t3_val (r3 (p3_cal C_is_lattice hr (by rfl) (c3_val (r3_name 0) c3_nil))))) (b3_one m3_never) b3_nil)), v_need_lattice⟩)
theorem ok_standing {f : Addr} {fd : FuncData} {k : Nat} (F : Fun K "standing" "standing" s_standing f fd) (B_len : mg "len" = none) (B_range : mg "range" = none) (B_tuple : mg "tuple" = none) (C_need_lattice : Cal P w K mg base "need_lattice" k ["rows"] sp_need_lattice) (C_stepped : Cal P w K mg base "stepped" k ["rows"] sp_stepped) (C_taken_off : Cal P w K mg base "taken_off" k ["row", "many", "other"] sp_taken_off) : FnOk P w K mg base CX0 (k + 1) f fd ["rows"] (lift K sp_standing) :=
  ok3 F sc_standing (fun ts Q E h => by first | (obtain ⟨rfl, _⟩ := h; rfl) | (obtain ⟨_, rfl, _⟩ := h; rfl) | (obtain ⟨_, _, rfl, _⟩ := h; rfl) | (obtain ⟨_, _, _, rfl, _⟩ := h; rfl) | (obtain ⟨_, _, _, _, rfl, _⟩ := h; rfl) | (obtain ⟨_, _, _, _, _, rfl, _⟩ := h; rfl) | (obtain ⟨_, _, _, _, _, _, rfl, _⟩ := h; rfl) | (obtain ⟨_, _, _, _, _, _, _, rfl, _⟩ := h; rfl)) (fun cdv A outer s H E hr => ⟨body_standing, (b3_cons (m3_expr (p3 (r3 (p3_cal C_need_lattice hr (by rfl) (c3_val (r3_name 0) c3_nil)))))
      (b3_cons (m3_set 1 (p3_cal C_stepped hr (by rfl) (c3_val (r3_name 0) c3_nil)) sc_standing.nd)
      (b3_cons (m3_for PassesOwn.never rfl (i3_range1 (by rfl) B_range (r3_len (by rfl) B_len (r3_name 1))) (g3_name 2 sc_standing.nd) (b3_one (m3_for PassesOwn.never rfl (i3_range1 (by rfl) B_range (r3_name 2)) (g3_name 3 sc_standing.nd) (b3_cons (m3_set 4 (p3 (r3_fdiv (r3_ix (r3_ix (r3_name 1) (r3_name 3)) (r3_name 2)) (r3_ix (r3_ix (r3_name 1) (r3_name 2)) (r3_name 2)))) sc_standing.nd)
      (b3_one (m3_asg (p3 (r3 (p3_cal C_taken_off hr (by rfl) (c3_val (r3_ix (r3_name 1) (r3_name 3)) (c3_val (r3_name 4) (c3_val (r3_ix (r3_name 1) (r3_name 2)) c3_nil)))))) (g3_sub 1 (r3_name 3))))))))
      (b3_one (m3_ret (p3 (r3_tuple (by rfl) B_tuple (r3 (p3_lc (own := [("row", 5)]) (js := [5]) rfl sc_standing.nd (i3_seq (r3 (p3_move 1))) (blkOk_by (N := N_standing) (sc := defScope s_standing) (by decide +kernel)) (by decide) (fun _ _ _ _ _ => (g3_name 5 sc_standing.nd)) (fun _ _ _ _ _ => ts3_nil) (fun _ _ _ _ _ => (p3 (r3_tuple (by rfl) B_tuple (r3_name 5))))))))))))), v_standing⟩)
theorem ok_law_16 {f : Addr} {fd : FuncData} {k : Nat} (F : Fun K "law" "law" s_law_16 f fd) (B_isinstance : mg "isinstance" = none) (B_range : mg "range" = none) (B_tuple : mg "tuple" = none) (C_law_determinant : Cal P w K mg base "_law_determinant" k ["_law_rows_here"] (sp_law_determinant 8)) (C_law_rows_1 : Cal P w K mg base "_law_rows" k ["_law_script", "_law_start", "_law_wide"] sp_law_rows_1) (C_law_same_3 : Cal P w K mg base "_law_same" k ["_law_one", "_law_other"] sp_law_same_3) (C_law_stand : Cal P w K mg base "_law_stand" k ["_law_found"] sp_law_stand) (C_standing : Cal P w K mg base "standing" k ["rows"] sp_standing) : FnOk P w K mg base CX0 (k + 1) f fd ["_law_script"] (lift K spLaw) :=
  ok3 F sc_law_16 (fun ts Q E h => by first | (obtain ⟨rfl, _⟩ := h; rfl) | (obtain ⟨_, rfl, _⟩ := h; rfl) | (obtain ⟨_, _, rfl, _⟩ := h; rfl) | (obtain ⟨_, _, _, rfl, _⟩ := h; rfl) | (obtain ⟨_, _, _, _, rfl, _⟩ := h; rfl) | (obtain ⟨_, _, _, _, _, rfl, _⟩ := h; rfl) | (obtain ⟨_, _, _, _, _, _, rfl, _⟩ := h; rfl) | (obtain ⟨_, _, _, _, _, _, _, rfl, _⟩ := h; rfl)) (fun cdv A outer s H E hr => ⟨body_law_16, (b3_cons (m3_for PassesOwn.never rfl (i3_range1 (by rfl) B_range r3_int) (g3_name 1 sc_law_16.nd) (b3_cons (m3_set 2 (p3_cal C_law_rows_1 hr (by rfl) (c3_val (r3_name 0) (c3_val (r3_mul r3_int (r3_name 1)) (c3_val r3_int c3_nil)))) sc_law_16.nd)
      (b3_one (m3_if (t3_neI (r3 (p3_cal C_law_determinant hr (by rfl) (c3_val (r3_name 2) c3_nil))) r3_int) (b3_cons (m3_set 3 (p3_cal C_standing hr (by rfl) (c3_val (r3_name 2) c3_nil)) sc_law_16.nd)
      (b3_one (m3_if (t3_w (w3_or (t3_not (t3_val (r3_isi (b := "tuple") (by rfl) B_isinstance (by rfl) B_tuple (by rfl) (by decide +kernel) (r3_name 3)))) (w3_or (t3_not (t3_val (r3 (p3_cal C_law_same_3 hr (by rfl) (c3_val (r3_name 2) (c3_val (r3_name 3) c3_nil)))))) (w3_or1 (t3_not (t3_val (r3 (p3_cal C_law_stand hr (by rfl) (c3_val (r3_name 3) c3_nil))))))))) (b3_one (m3_ret (p3 r3_bool))) b3_nil))) b3_nil))))
      (b3_one (m3_ret (p3 r3_bool)))), v_law_16⟩)
end
theorem all_mk {l : PySem.W.OpenLaw} {w : World} {K : PySem.W.Frag} {h : Heap} {mg : Str → Option Value} {fa f0 f1 f2 f3 f4 f5 f6 f7 f8 f9 f10 f11 f12 f13 f14 f15 f16 : Addr} (X : K.In h) (G : h.Ns mainGlobals mg) (hfa : mg "law" = some (.ref fa))
    {od0 an0 od1 an1 od2 an2 od3 an3 od4 an4 od5 an5 od6 an6 od7 an7 od8 an8 od9 an9 od10 an10 od11 an11 od12 an12 od13 an13 od14 an14 od15 an15 od16 an16 : Option Addr} {sl0 sl1 sl2 sl3 sl4 sl5 sl6 sl7 sl8 sl9 sl10 sl11 sl12 sl13 sl14 sl15 sl16 : Array (Option Value)} {oc0 kV0 dc0 pm0 cd0 ct0 oc1 kV1 dc1 pm1 cd1 ct1 oc2 kV2 dc2 pm2 cd2 ct2 oc3 kV3 dc3 pm3 cd3 ct3 oc4 kV4 dc4 pm4 cd4 ct4 oc5 kV5 dc5 pm5 cd5 ct5 oc6 kV6 dc6 pm6 cd6 ct6 oc7 kV7 dc7 pm7 cd7 ct7 oc8 kV8 dc8 pm8 cd8 ct8 oc9 kV9 dc9 pm9 cd9 ct9 oc10 kV10 dc10 pm10 cd10 ct10 oc11 kV11 dc11 pm11 cd11 ct11 oc12 kV12 dc12 pm12 cd12 ct12 oc13 kV13 dc13 pm13 cd13 ct13 oc14 kV14 dc14 pm14 cd14 ct14 oc15 kV15 dc15 pm15 cd15 ct15 oc16 kV16 dc16 pm16 cd16 ct16 : Value}
    (a0 : PySem.W.nsIn K mainGlobals "_law_determinant" = some (some (.ref f0))) (l0 : K.lookup f0 = some ⟨oc0, od0, .func (PySem.W.fnOf "_law_determinant" "_law_determinant" (defArgs s_law_determinant) (defBody s_law_determinant) (defScope s_law_determinant) .none kV0 dc0 pm0 an0 cd0 ct0), sl0⟩) (c0 : PySem.W.codeIn K cd0 "_law_determinant" = true) (k0 : PySem.W.keepIn K (.ref f0) = true)
    (a1 : PySem.W.nsIn K mainGlobals "_law_number" = some (some (.ref f1))) (l1 : K.lookup f1 = some ⟨oc1, od1, .func (PySem.W.fnOf "_law_number" "_law_number" (defArgs s_law_number_1) (defBody s_law_number_1) (defScope s_law_number_1) .none kV1 dc1 pm1 an1 cd1 ct1), sl1⟩) (c1 : PySem.W.codeIn K cd1 "_law_number" = true) (k1 : PySem.W.keepIn K (.ref f1) = true)
    (a2 : PySem.W.nsIn K mainGlobals "_law_great" = some (some (.ref f2))) (l2 : K.lookup f2 = some ⟨oc2, od2, .func (PySem.W.fnOf "_law_great" "_law_great" (defArgs s_law_great_1) (defBody s_law_great_1) (defScope s_law_great_1) .none kV2 dc2 pm2 an2 cd2 ct2), sl2⟩) (c2 : PySem.W.codeIn K cd2 "_law_great" = true) (k2 : PySem.W.keepIn K (.ref f2) = true)
    (a3 : PySem.W.nsIn K mainGlobals "_law_rows" = some (some (.ref f3))) (l3 : K.lookup f3 = some ⟨oc3, od3, .func (PySem.W.fnOf "_law_rows" "_law_rows" (defArgs s_law_rows_1) (defBody s_law_rows_1) (defScope s_law_rows_1) .none kV3 dc3 pm3 an3 cd3 ct3), sl3⟩) (c3 : PySem.W.codeIn K cd3 "_law_rows" = true) (k3 : PySem.W.keepIn K (.ref f3) = true)
    (a4 : PySem.W.nsIn K mainGlobals "_law_in" = some (some (.ref f4))) (l4 : K.lookup f4 = some ⟨oc4, od4, .func (PySem.W.fnOf "_law_in" "_law_in" (defArgs s_law_in) (defBody s_law_in) (defScope s_law_in) .none kV4 dc4 pm4 an4 cd4 ct4), sl4⟩) (c4 : PySem.W.codeIn K cd4 "_law_in" = true) (k4 : PySem.W.keepIn K (.ref f4) = true)
    (a5 : PySem.W.nsIn K mainGlobals "_law_has" = some (some (.ref f5))) (l5 : K.lookup f5 = some ⟨oc5, od5, .func (PySem.W.fnOf "_law_has" "_law_has" (defArgs s_law_has_1) (defBody s_law_has_1) (defScope s_law_has_1) .none kV5 dc5 pm5 an5 cd5 ct5), sl5⟩) (c5 : PySem.W.codeIn K cd5 "_law_has" = true) (k5 : PySem.W.keepIn K (.ref f5) = true)
    (a6 : PySem.W.nsIn K mainGlobals "_law_is_lattice" = some (some (.ref f6))) (l6 : K.lookup f6 = some ⟨oc6, od6, .func (PySem.W.fnOf "_law_is_lattice" "_law_is_lattice" (defArgs s_law_is_lattice_1) (defBody s_law_is_lattice_1) (defScope s_law_is_lattice_1) .none kV6 dc6 pm6 an6 cd6 ct6), sl6⟩) (c6 : PySem.W.codeIn K cd6 "_law_is_lattice" = true) (k6 : PySem.W.keepIn K (.ref f6) = true)
    (a7 : PySem.W.nsIn K mainGlobals "_law_same" = some (some (.ref f7))) (l7 : K.lookup f7 = some ⟨oc7, od7, .func (PySem.W.fnOf "_law_same" "_law_same" (defArgs s_law_same_3) (defBody s_law_same_3) (defScope s_law_same_3) .none kV7 dc7 pm7 an7 cd7 ct7), sl7⟩) (c7 : PySem.W.codeIn K cd7 "_law_same" = true) (k7 : PySem.W.keepIn K (.ref f7) = true)
    (a8 : PySem.W.nsIn K mainGlobals "_law_stand" = some (some (.ref f8))) (l8 : K.lookup f8 = some ⟨oc8, od8, .func (PySem.W.fnOf "_law_stand" "_law_stand" (defArgs s_law_stand) (defBody s_law_stand) (defScope s_law_stand) .none kV8 dc8 pm8 an8 cd8 ct8), sl8⟩) (c8 : PySem.W.codeIn K cd8 "_law_stand" = true) (k8 : PySem.W.keepIn K (.ref f8) = true)
    (a9 : PySem.W.nsIn K mainGlobals "is_square" = some (some (.ref f9))) (l9 : K.lookup f9 = some ⟨oc9, od9, .func (PySem.W.fnOf "is_square" "is_square" (defArgs s_is_square) (defBody s_is_square) (defScope s_is_square) .none kV9 dc9 pm9 an9 cd9 ct9), sl9⟩) (c9 : PySem.W.codeIn K cd9 "is_square" = true) (k9 : PySem.W.keepIn K (.ref f9) = true)
    (a10 : PySem.W.nsIn K mainGlobals "taken_off" = some (some (.ref f10))) (l10 : K.lookup f10 = some ⟨oc10, od10, .func (PySem.W.fnOf "taken_off" "taken_off" (defArgs s_taken_off) (defBody s_taken_off) (defScope s_taken_off) .none kV10 dc10 pm10 an10 cd10 ct10), sl10⟩) (c10 : PySem.W.codeIn K cd10 "taken_off" = true) (k10 : PySem.W.keepIn K (.ref f10) = true)
    (a11 : PySem.W.nsIn K mainGlobals "stepped" = some (some (.ref f11))) (l11 : K.lookup f11 = some ⟨oc11, od11, .func (PySem.W.fnOf "stepped" "stepped" (defArgs s_stepped) (defBody s_stepped) (defScope s_stepped) .none kV11 dc11 pm11 an11 cd11 ct11), sl11⟩) (c11 : PySem.W.codeIn K cd11 "stepped" = true) (k11 : PySem.W.keepIn K (.ref f11) = true)
    (a12 : PySem.W.nsIn K mainGlobals "measure_of" = some (some (.ref f12))) (l12 : K.lookup f12 = some ⟨oc12, od12, .func (PySem.W.fnOf "measure_of" "measure_of" (defArgs s_measure_of) (defBody s_measure_of) (defScope s_measure_of) .none kV12 dc12 pm12 an12 cd12 ct12), sl12⟩) (c12 : PySem.W.codeIn K cd12 "measure_of" = true) (k12 : PySem.W.keepIn K (.ref f12) = true)
    (a13 : PySem.W.nsIn K mainGlobals "is_lattice" = some (some (.ref f13))) (l13 : K.lookup f13 = some ⟨oc13, od13, .func (PySem.W.fnOf "is_lattice" "is_lattice" (defArgs s_is_lattice) (defBody s_is_lattice) (defScope s_is_lattice) .none kV13 dc13 pm13 an13 cd13 ct13), sl13⟩) (c13 : PySem.W.codeIn K cd13 "is_lattice" = true) (k13 : PySem.W.keepIn K (.ref f13) = true)
    (a14 : PySem.W.nsIn K mainGlobals "need_lattice" = some (some (.ref f14))) (l14 : K.lookup f14 = some ⟨oc14, od14, .func (PySem.W.fnOf "need_lattice" "need_lattice" (defArgs s_need_lattice) (defBody s_need_lattice) (defScope s_need_lattice) .none kV14 dc14 pm14 an14 cd14 ct14), sl14⟩) (c14 : PySem.W.codeIn K cd14 "need_lattice" = true) (k14 : PySem.W.keepIn K (.ref f14) = true)
    (a15 : PySem.W.nsIn K mainGlobals "standing" = some (some (.ref f15))) (l15 : K.lookup f15 = some ⟨oc15, od15, .func (PySem.W.fnOf "standing" "standing" (defArgs s_standing) (defBody s_standing) (defScope s_standing) .none kV15 dc15 pm15 an15 cd15 ct15), sl15⟩) (c15 : PySem.W.codeIn K cd15 "standing" = true) (k15 : PySem.W.keepIn K (.ref f15) = true)
    (a16 : PySem.W.nsIn K mainGlobals "law" = some (some (.ref f16))) (l16 : K.lookup f16 = some ⟨oc16, od16, .func (PySem.W.fnOf "law" "law" (defArgs s_law_16) (defBody s_law_16) (defScope s_law_16) .none kV16 dc16 pm16 an16 cd16 ct16), sl16⟩) (c16 : PySem.W.codeIn K cd16 "law" = true) (k16 : PySem.W.keepIn K (.ref f16) = true)
    (z_abs : PySem.W.nsIn K mainGlobals "abs" = some none)
    (z_bool : PySem.W.nsIn K mainGlobals "bool" = some none)
    (z_enumerate : PySem.W.nsIn K mainGlobals "enumerate" = some none)
    (z_int : PySem.W.nsIn K mainGlobals "int" = some none)
    (z_isinstance : PySem.W.nsIn K mainGlobals "isinstance" = some none)
    (z_len : PySem.W.nsIn K mainGlobals "len" = some none)
    (z_list : PySem.W.nsIn K mainGlobals "list" = some none)
    (z_max : PySem.W.nsIn K mainGlobals "max" = some none)
    (z_min : PySem.W.nsIn K mainGlobals "min" = some none)
    (z_range : PySem.W.nsIn K mainGlobals "range" = some none)
    (z_tuple : PySem.W.nsIn K mainGlobals "tuple" = some none)
    (z_zip : PySem.W.nsIn K mainGlobals "zip" = some none) :
    ∃ fd : FuncData, (∀ (s : Shared) (v : Value), BindsTo s fd ⟨[v], []⟩ [("_law_script", v)]) ∧ ∀ base : Heap, K.In base → base.Ns mainGlobals mg → FnOk l.prog w K mg base CX0 13 fa fd ["_law_script"] (lift K spLaw) := by
  have e := hfa.symm.trans (PySem.W.mg_of X G a16)
  cases e
  have F0 := fun_mk (st := s_law_determinant) l0 c0 k0
  have F1 := fun_mk (st := s_law_number_1) l1 c1 k1
  have F2 := fun_mk (st := s_law_great_1) l2 c2 k2
  have F3 := fun_mk (st := s_law_rows_1) l3 c3 k3
  have F4 := fun_mk (st := s_law_in) l4 c4 k4
  have F5 := fun_mk (st := s_law_has_1) l5 c5 k5
  have F6 := fun_mk (st := s_law_is_lattice_1) l6 c6 k6
  have F7 := fun_mk (st := s_law_same_3) l7 c7 k7
  have F8 := fun_mk (st := s_law_stand) l8 c8 k8
  have F9 := fun_mk (st := s_is_square) l9 c9 k9
  have F10 := fun_mk (st := s_taken_off) l10 c10 k10
  have F11 := fun_mk (st := s_stepped) l11 c11 k11
  have F12 := fun_mk (st := s_measure_of) l12 c12 k12
  have F13 := fun_mk (st := s_is_lattice) l13 c13 k13
  have F14 := fun_mk (st := s_need_lattice) l14 c14 k14
  have F15 := fun_mk (st := s_standing) l15 c15 k15
  have F16 := fun_mk (st := s_law_16) l16 c16 k16
  have b0 := F0.binds (ps := ["_law_rows_here"]) fun _ _ _ _ _ _ us hl => match us, hl with | [_], _ => rfl
  have m0 := PySem.W.mg_of X G a0
  have b1 := F1.binds (ps := ["_law_script", "_law_k"]) fun _ _ _ _ _ _ us hl => match us, hl with | [_, _], _ => rfl
  have m1 := PySem.W.mg_of X G a1
  have b2 := F2.binds (ps := ["_law_script", "_law_k", "_law_groups"]) fun _ _ _ _ _ _ us hl => match us, hl with | [_, _, _], _ => rfl
  have m2 := PySem.W.mg_of X G a2
  have b3 := F3.binds (ps := ["_law_script", "_law_start", "_law_wide"]) fun _ _ _ _ _ _ us hl => match us, hl with | [_, _, _], _ => rfl
  have m3 := PySem.W.mg_of X G a3
  have b4 := F4.binds (ps := ["_law_rows_here", "_law_row"]) fun _ _ _ _ _ _ us hl => match us, hl with | [_, _], _ => rfl
  have m4 := PySem.W.mg_of X G a4
  have b5 := F5.binds (ps := ["_law_rows_here", "_law_row"]) fun _ _ _ _ _ _ us hl => match us, hl with | [_, _], _ => rfl
  have m5 := PySem.W.mg_of X G a5
  have b6 := F6.binds (ps := ["_law_rows_here"]) fun _ _ _ _ _ _ us hl => match us, hl with | [_], _ => rfl
  have m6 := PySem.W.mg_of X G a6
  have b7 := F7.binds (ps := ["_law_one", "_law_other"]) fun _ _ _ _ _ _ us hl => match us, hl with | [_, _], _ => rfl
  have m7 := PySem.W.mg_of X G a7
  have b8 := F8.binds (ps := ["_law_found"]) fun _ _ _ _ _ _ us hl => match us, hl with | [_], _ => rfl
  have m8 := PySem.W.mg_of X G a8
  have b9 := F9.binds (ps := ["rows"]) fun _ _ _ _ _ _ us hl => match us, hl with | [_], _ => rfl
  have m9 := PySem.W.mg_of X G a9
  have b10 := F10.binds (ps := ["row", "many", "other"]) fun _ _ _ _ _ _ us hl => match us, hl with | [_, _, _], _ => rfl
  have m10 := PySem.W.mg_of X G a10
  have b11 := F11.binds (ps := ["rows"]) fun _ _ _ _ _ _ us hl => match us, hl with | [_], _ => rfl
  have m11 := PySem.W.mg_of X G a11
  have b12 := F12.binds (ps := ["rows"]) fun _ _ _ _ _ _ us hl => match us, hl with | [_], _ => rfl
  have m12 := PySem.W.mg_of X G a12
  have b13 := F13.binds (ps := ["rows"]) fun _ _ _ _ _ _ us hl => match us, hl with | [_], _ => rfl
  have m13 := PySem.W.mg_of X G a13
  have b14 := F14.binds (ps := ["rows"]) fun _ _ _ _ _ _ us hl => match us, hl with | [_], _ => rfl
  have m14 := PySem.W.mg_of X G a14
  have b15 := F15.binds (ps := ["rows"]) fun _ _ _ _ _ _ us hl => match us, hl with | [_], _ => rfl
  have m15 := PySem.W.mg_of X G a15
  have B_abs := PySem.W.mg_none_of X G z_abs
  have B_bool := PySem.W.mg_none_of X G z_bool
  have B_enumerate := PySem.W.mg_none_of X G z_enumerate
  have B_int := PySem.W.mg_none_of X G z_int
  have B_isinstance := PySem.W.mg_none_of X G z_isinstance
  have B_len := PySem.W.mg_none_of X G z_len
  have B_list := PySem.W.mg_none_of X G z_list
  have B_max := PySem.W.mg_none_of X G z_max
  have B_min := PySem.W.mg_none_of X G z_min
  have B_range := PySem.W.mg_none_of X G z_range
  have B_tuple := PySem.W.mg_none_of X G z_tuple
  have B_zip := PySem.W.mg_none_of X G z_zip
  refine ⟨PySem.W.fnOf "law" "law" (defArgs s_law_16) (defBody s_law_16) (defScope s_law_16) .none kV16 dc16 pm16 an16 cd16 ct16, fun s v => .of_eq rfl, fun base _ _ => ?_⟩
  have C_law_determinant : Cal l.prog w K mg base "_law_determinant" 9 ["_law_rows_here"] (sp_law_determinant 8) := ⟨_, _, okn_law_determinant (k := 0) F0 m0 k0 b0 B_enumerate B_tuple (fun _ _ _ h => z0_law_determinant h) 8, m0, k0, b0⟩
  have C_law_number_1 : Cal l.prog w K mg base "_law_number" 1 ["_law_script", "_law_k"] sp_law_number_1 := ⟨_, _, ok_law_number_1 (k := 0) F1 B_len B_list B_max B_min B_range, m1, k1, b1⟩
  have C_law_great_1 : Cal l.prog w K mg base "_law_great" 2 ["_law_script", "_law_k", "_law_groups"] sp_law_great_1 := ⟨_, _, ok_law_great_1 (k := 1) F2 B_range (C_law_number_1.mono (by decide)), m2, k2, b2⟩
  have C_law_rows_1 : Cal l.prog w K mg base "_law_rows" 3 ["_law_script", "_law_start", "_law_wide"] sp_law_rows_1 := ⟨_, _, ok_law_rows_1 (k := 2) F3 B_int B_range B_tuple B_zip (C_law_great_1.mono (by decide)) (C_law_number_1.mono (by decide)), m3, k3, b3⟩
  have C_law_in : Cal l.prog w K mg base "_law_in" 10 ["_law_rows_here", "_law_row"] sp_law_in := ⟨_, _, ok_law_in (k := 9) F4 B_len B_range (C_law_determinant.mono (by decide)), m4, k4, b4⟩
  have C_law_has_1 : Cal l.prog w K mg base "_law_has" 11 ["_law_rows_here", "_law_row"] sp_law_has_1 := ⟨_, _, ok_law_has_1 (k := 10) F5 B_len (C_law_determinant.mono (by decide)) (C_law_in.mono (by decide)), m5, k5, b5⟩
  have C_law_is_lattice_1 : Cal l.prog w K mg base "_law_is_lattice" 10 ["_law_rows_here"] sp_law_is_lattice_1 := ⟨_, _, ok_law_is_lattice_1 (k := 9) F6 B_len (C_law_determinant.mono (by decide)), m6, k6, b6⟩
  have C_law_same_3 : Cal l.prog w K mg base "_law_same" 12 ["_law_one", "_law_other"] sp_law_same_3 := ⟨_, _, ok_law_same_3 (k := 11) F7 B_abs B_len (C_law_determinant.mono (by decide)) (C_law_has_1.mono (by decide)) (C_law_is_lattice_1.mono (by decide)), m7, k7, b7⟩
  have C_law_stand : Cal l.prog w K mg base "_law_stand" 1 ["_law_found"] sp_law_stand := ⟨_, _, ok_law_stand (k := 0) F8 B_bool B_enumerate B_isinstance B_tuple, m8, k8, b8⟩
  have C_is_square : Cal l.prog w K mg base "is_square" 1 ["rows"] sp_is_square := ⟨_, _, ok_is_square (k := 0) F9 B_len, m9, k9, b9⟩
  have C_taken_off : Cal l.prog w K mg base "taken_off" 1 ["row", "many", "other"] sp_taken_off := ⟨_, _, ok_taken_off (k := 0) F10 B_zip, m10, k10, b10⟩
  have C_stepped : Cal l.prog w K mg base "stepped" 2 ["rows"] sp_stepped := ⟨_, _, ok_stepped (k := 1) F11 B_len B_list B_range (C_taken_off.mono (by decide)), m11, k11, b11⟩
  have C_measure_of : Cal l.prog w K mg base "measure_of" 3 ["rows"] sp_measure_of := ⟨_, _, ok_measure_of (k := 2) F12 B_enumerate (C_stepped.mono (by decide)), m12, k12, b12⟩
  have C_is_lattice : Cal l.prog w K mg base "is_lattice" 4 ["rows"] sp_is_lattice := ⟨_, _, ok_is_lattice (k := 3) F13 (C_is_square.mono (by decide)) (C_measure_of.mono (by decide)), m13, k13, b13⟩
  have C_need_lattice : Cal l.prog w K mg base "need_lattice" 5 ["rows"] sp_need_lattice := ⟨_, _, ok_need_lattice (k := 4) F14 (C_is_lattice.mono (by decide)), m14, k14, b14⟩
  have C_standing : Cal l.prog w K mg base "standing" 6 ["rows"] sp_standing := ⟨_, _, ok_standing (k := 5) F15 B_len B_range B_tuple (C_need_lattice.mono (by decide)) (C_stepped.mono (by decide)) (C_taken_off.mono (by decide)), m15, k15, b15⟩
  exact ok_law_16 (k := 12) F16 B_isinstance B_range B_tuple (C_law_determinant.mono (by decide)) (C_law_rows_1.mono (by decide)) (C_law_same_3.mono (by decide)) (C_law_stand.mono (by decide)) (C_standing.mono (by decide))

end K_k16
open PySem PySem.W PyProof.Rows
set_option maxHeartbeats 0 in
theorem PySem.Challenge.cw_underone_k16_standing_rows_holds : PySem.Challenge.rw_underone_k16_standing_rows.Holds := by
  w_on; o_law; k_head; (case hw => w_witness2)
  k_fill
  refine L2.walk_of (l := PySem.Challenge.rw_underone_k16_standing_rows) (n := 63) (k := 13) (x := "_law_script") (CX := fun _ => L2.CX0) (sp := fun w => L3.lift _ L3.spLaw) rfl (by decide) rfl ⟨rfl, by decide, by decide⟩ (fun w h Y => PySem.W.kIn_of Y) ?F (fun _ H a ns hl _ hS => L3.spLaw_of H a ns hl hS) (fun _ _ _ _ _ h => h)
  case F =>
    intro w mg fa h KX G hmg
    refine' K_k16.all_mk KX G hmg ?a0 ?l0 ?c0 ?k0 ?a1 ?l1 ?c1 ?k1 ?a2 ?l2 ?c2 ?k2 ?a3 ?l3 ?c3 ?k3 ?a4 ?l4 ?c4 ?k4 ?a5 ?l5 ?c5 ?k5 ?a6 ?l6 ?c6 ?k6 ?a7 ?l7 ?c7 ?k7 ?a8 ?l8 ?c8 ?k8 ?a9 ?l9 ?c9 ?k9 ?a10 ?l10 ?c10 ?k10 ?a11 ?l11 ?c11 ?k11 ?a12 ?l12 ?c12 ?k12 ?a13 ?l13 ?c13 ?k13 ?a14 ?l14 ?c14 ?k14 ?a15 ?l15 ?c15 ?k15 ?a16 ?l16 ?c16 ?k16 ?z_abs ?z_bool ?z_enumerate ?z_int ?z_isinstance ?z_len ?z_list ?z_max ?z_min ?z_range ?z_tuple ?z_zip
    (case a0 => k_is); (case l0 => k_is); (case c0 => k_is); (case k0 => k_is); (case a1 => k_is); (case l1 => k_is); (case c1 => k_is); (case k1 => k_is); (case a2 => k_is); (case l2 => k_is); (case c2 => k_is); (case k2 => k_is); (case a3 => k_is); (case l3 => k_is); (case c3 => k_is); (case k3 => k_is); (case a4 => k_is); (case l4 => k_is); (case c4 => k_is); (case k4 => k_is); (case a5 => k_is); (case l5 => k_is); (case c5 => k_is); (case k5 => k_is); (case a6 => k_is); (case l6 => k_is); (case c6 => k_is); (case k6 => k_is); (case a7 => k_is); (case l7 => k_is); (case c7 => k_is); (case k7 => k_is); (case a8 => k_is); (case l8 => k_is); (case c8 => k_is); (case k8 => k_is); (case a9 => k_is); (case l9 => k_is); (case c9 => k_is); (case k9 => k_is); (case a10 => k_is); (case l10 => k_is); (case c10 => k_is); (case k10 => k_is); (case a11 => k_is); (case l11 => k_is); (case c11 => k_is); (case k11 => k_is); (case a12 => k_is); (case l12 => k_is); (case c12 => k_is); (case k12 => k_is); (case a13 => k_is); (case l13 => k_is); (case c13 => k_is); (case k13 => k_is); (case a14 => k_is); (case l14 => k_is); (case c14 => k_is); (case k14 => k_is); (case a15 => k_is); (case l15 => k_is); (case c15 => k_is); (case k15 => k_is); (case a16 => k_is); (case l16 => k_is); (case c16 => k_is); (case k16 => k_is); (case z_abs => k_is); (case z_bool => k_is); (case z_enumerate => k_is); (case z_int => k_is); (case z_isinstance => k_is); (case z_len => k_is); (case z_list => k_is); (case z_max => k_is); (case z_min => k_is); (case z_range => k_is); (case z_tuple => k_is); (case z_zip => k_is)
