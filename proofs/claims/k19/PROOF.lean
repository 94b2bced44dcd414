import PyProof.Rows.All
import Wide.All
import OpenK.AllK
import Wide.FinOn
import HandS.ForMost
import HandS.Wide
import HandS.Zip
import HandS.ExcValue
import HandS.ExcIs
import HandS.WordsExc
import HandS.ExcOwn
import HandS.Exc
import HandS.IsInst
import HandS.TupAny
import HandS.TupMul
import HandS.Style
import HandS.SortRule
import HandS.SortInts
import HandS.Text
import HandS.Conv
import KE.GoesZip
import KE.GoesMore
import KE.DataFind
import HandS.ExcBuiltin
import PyProof.EnumMake
import KE.DatumOrd
import KE.SortData
import PySem.Challenge.RW_underone_k19_whole_lattices_seen_otherwi
set_option Elab.async false
set_option linter.all false
set_option maxRecDepth 100000
/-! L3: a layer of values over HandS: data (PyData), lists of one's own as trees, no addresses in sight. -/
namespace L3
open PySem PySem.Spec PyProof.Rows L2
/-- a value: data that never changes again, a plain V, the script (a list of ints that is only read), a list of one's own (it may be changed), a tuple of such -/
inductive T where
  | d (x : PyData) | v (x : V) | sc (a : Addr) (ns : List Int) | own (a : Addr) (l : List T) | tp (l : List T)
abbrev Rho := List (Option T)
def Sub (Z Z' : Hp) : Prop := ∀ a o, Z a = some o → Z' a = some o
theorem Sub.refl (Z : Hp) : Sub Z Z := fun _ _ h => h
theorem Sub.trans {A B C : Hp} (h : Sub A B) (k : Sub B C) : Sub A C := fun a o e => k a o (h a o e)
theorem Sub.L {K : PySem.W.Frag} {Z Z' : Hp} {a : Addr} {xs : List V} (e : Sub Z Z') (h : SqL K Z a xs) : SqL K Z' a xs := by
  rcases h with (h | ⟨o, h⟩) | h
  · exact .inl (.inl (e _ _ h))
  · exact .inl (.inr ⟨o, e _ _ h⟩)
  · exact .inr h
theorem Sub.T {K : PySem.W.Frag} {Z Z' : Hp} {a : Addr} {xs : List V} (e : Sub Z Z') (h : SqT K Z a xs) : SqT K Z' a xs := by
  rcases h with (h | ⟨o, h⟩) | h
  · exact .inl (.inl (e _ _ h))
  · exact .inl (.inr ⟨o, e _ _ h⟩)
  · exact .inr h
/-- an object that is an exception of the class C, and stays one -/
def IsExc (C : Addr) (a : Addr) (o : HO) : Prop := ∃ φ, o = .ext φ ∧ ∀ h, φ h → ∃ (oe : Obj) (vs : Array Value), h.get? a = some oe ∧ Zc (.ref C) none oe ∧ oe.data = .fields vs
/-- an exception of the class C, as data -/
abbrev excD (C : Addr) : PyData := .dict [(.int (C : Nat), .none)]
mutual
inductive Dq (K : PySem.W.Frag) (H : Hp) : V → PyData → Prop
  | non : Dq K H .non .none
  | bl (b : Bool) : Dq K H (.bl b) (.bool b)
  | int (i : Int) : Dq K H (.int i) (.int i)
  | str (x : Str) : Dq K H (.str x) (.str x)
  | lst {a : Addr} {xs : List V} {ds : List PyData} : H a = some (.lst xs) → DqAll K H xs ds → Dq K H (.ref a) (.list ds)
  | tup {a : Addr} {xs : List V} {ds : List PyData} : H a = some (.tup xs) → DqAll K H xs ds → Dq K H (.ref a) (.tuple ds)
  | exc {a C : Addr} {o : HO} : H a = some o → IsExc C a o → Dq K H (.ref a) (excD C)
inductive DqAll (K : PySem.W.Frag) (H : Hp) : List V → List PyData → Prop
  | nil : DqAll K H [] []
  | cons {v : V} {vs : List V} {d : PyData} {ds : List PyData} : Dq K H v d → DqAll K H vs ds → DqAll K H (v :: vs) (d :: ds)
end
mutual
theorem dq_dp {K : PySem.W.Frag} {Z : Hp} : ∀ (d : PyData) (v : V), d.canLay0 = true → Dq K Z v d → Dp K Z v d
  | .none, _, _, h => by cases h; exact .non
  | .bool b, _, _, h => by cases h; exact .bl b
  | .int i, _, _, h => by cases h; exact .int i
  | .str x, _, _, h => by cases h; exact .str x
  | .list ds, _, c, h => by
    cases h with
    | lst hs ha => exact .lst (SqL.of hs) (dqa_dp ds _ (by simpa [PyData.canLay0] using c) ha)
  | .tuple ds, _, c, h => by
    cases h with
    | tup hs ha => exact .tup (SqT.of hs) (dqa_dp ds _ (by simpa [PyData.canLay0] using c) ha)
  | .dict _, _, c, h => by simp [PyData.canLay0] at c
theorem dqa_dp {K : PySem.W.Frag} {Z : Hp} : ∀ (ds : List PyData) (vs : List V), PyData.canLayAll0 ds = true → DqAll K Z vs ds → DpAll K Z vs ds
  | [], _, _, h => by cases h; exact .nil
  | d :: ds, _, c, h => by
    have c' : d.canLay0 = true ∧ PyData.canLayAll0 ds = true := by simpa [PyData.canLayAll0] using c
    cases h with
    | cons h1 h2 => exact .cons (dq_dp d _ c'.1 h1) (dqa_dp ds _ c'.2 h2)
end
mutual
theorem dp_mono {K : PySem.W.Frag} {Z Z' : Hp} (e : Sub Z Z') : ∀ (d : PyData) (v : V), Dq K Z v d → Dq K Z' v d
  | .none, _, h => by cases h; exact .non
  | .bool b, _, h => by cases h; exact .bl b
  | .int i, _, h => by cases h; exact .int i
  | .str x, _, h => by cases h; exact .str x
  | .list ds, _, h => by
    cases h with
    | lst hs ha => exact .lst (e _ _ hs) (dpa_mono e ds _ ha)
  | .tuple ds, _, h => by
    cases h with
    | tup hs ha => exact .tup (e _ _ hs) (dpa_mono e ds _ ha)
  | .dict _, _, h => by
    cases h with
    | exc h1 h2 => exact .exc (e _ _ h1) h2
theorem dpa_mono {K : PySem.W.Frag} {Z Z' : Hp} (e : Sub Z Z') : ∀ (ds : List PyData) (vs : List V), DqAll K Z vs ds → DqAll K Z' vs ds
  | [], _, h => by cases h; exact .nil
  | d :: ds, _, h => by
    cases h with
    | cons h1 h2 => exact .cons (dp_mono e d _ h1) (dpa_mono e ds _ h2)
end
mutual
/-- no list within -/
def LF : PyData → Bool
  | .list _ => false
  | .tuple ds => LFs ds
  | .dict _ => false
  | .none => true
  | .bool _ => true
  | .int _ => true
  | .str _ => true
def LFs : List PyData → Bool
  | [] => true
  | d :: ds => LF d && LFs ds
end
/-- a heap without some tracked lists -/
def SubT (Z Z' : Hp) : Prop := ∀ a o, Z a = some o → (∀ xs, o ≠ .lst xs) → Z' a = some o
theorem SubT.T {K : PySem.W.Frag} {Z Z' : Hp} {a : Addr} {xs : List V} (e : SubT Z Z') (h : SqT K Z a xs) : SqT K Z' a xs := by
  rcases h with (h | ⟨o, h⟩) | h
  · exact .inl (.inl (e _ _ h (fun _ q => nomatch q)))
  · exact .inl (.inr ⟨o, e _ _ h (fun _ q => nomatch q)⟩)
  · exact .inr h
mutual
theorem dp_lf {K : PySem.W.Frag} {Z Z' : Hp} (e : SubT Z Z') : ∀ (d : PyData) (v : V), LF d = true → Dq K Z v d → Dq K Z' v d
  | .none, _, _, h => by cases h; exact .non
  | .bool b, _, _, h => by cases h; exact .bl b
  | .int i, _, _, h => by cases h; exact .int i
  | .str x, _, _, h => by cases h; exact .str x
  | .list ds, _, l, h => by simp [LF] at l
  | .tuple ds, _, l, h => by
    cases h with
    | tup hs ha => exact .tup (e _ _ hs (fun _ q => nomatch q)) (dpa_lf e ds _ (by simpa [LF] using l) ha)
  | .dict _, _, l, h => by simp [LF] at l
theorem dpa_lf {K : PySem.W.Frag} {Z Z' : Hp} (e : SubT Z Z') : ∀ (ds : List PyData) (vs : List V), LFs ds = true → DqAll K Z vs ds → DqAll K Z' vs ds
  | [], _, _, h => by cases h; exact .nil
  | d :: ds, _, l, h => by
    have l' : LF d = true ∧ LFs ds = true := by simpa [LFs] using l
    cases h with
    | cons h1 h2 => exact .cons (dp_lf e d _ l'.1 h1) (dpa_lf e ds _ l'.2 h2)
end
mutual
inductive RT (K : PySem.W.Frag) (Z H : Hp) : T → V → Prop
  | d {x : PyData} {v : V} : Dq K Z v x → RT K Z H (.d x) v
  | v {x : V} : RT K Z H (.v x) x
  | sc {a : Addr} {ns : List Int} : SqL K Z a (ns.map V.int) → RT K Z H (.sc a ns) (.ref a)
  | own {a : Addr} {l : List T} {xs : List V} : H a = some (.lst xs) → RTs K Z H l xs → RT K Z H (.own a l) (.ref a)
  | tp {a : Addr} {l : List T} {xs : List V} : Z a = some (.tup xs) → RTs K Z H l xs → RT K Z H (.tp l) (.ref a)
inductive RTs (K : PySem.W.Frag) (Z H : Hp) : List T → List V → Prop
  | nil : RTs K Z H [] []
  | cons {t : T} {l : List T} {v : V} {vs : List V} : RT K Z H t v → RTs K Z H l vs → RTs K Z H (t :: l) (v :: vs)
end
mutual
/-- how often the list at a stands in it as one's own -/
def ct (a : Addr) : T → Nat
  | .d _ => 0
  | .v _ => 0
  | .sc _ _ => 0
  | .own b l => (if b = a then 1 else 0) + cts a l
  | .tp l => cts a l
def cts (a : Addr) : List T → Nat
  | [] => 0
  | t :: l => ct a t + cts a l
end
def cto (a : Addr) : Rho → Nat
  | [] => 0
  | none :: r => cto a r
  | some t :: r => ct a t + cto a r
def ctq (a : Addr) : Option T → Nat
  | none => 0
  | some t => ct a t
theorem cto_cons (a : Addr) (q : Option T) (r : Rho) : cto a (q :: r) = ctq a q + cto a r := by
  cases q with
  | none => show cto a r = 0 + cto a r; omega
  | some t => rfl
theorem cto_set (a : Addr) : ∀ (r : Rho) (i : Nat) (q x : Option T), r[i]? = some q → cto a (r.set i x) + ctq a q = cto a r + ctq a x
  | [], i, q, x, h => by simp at h
  | y :: r, 0, q, x, h => by
    have e : y = q := by simpa using h
    subst e
    rw [List.set_cons_zero, cto_cons, cto_cons]
    omega
  | y :: r, i + 1, q, x, h => by
    have h' : r[i]? = some q := by simpa using h
    have ih := cto_set a r i q x h'
    rw [List.set_cons_succ, cto_cons, cto_cons]
    omega
theorem cto_set_ge (a : Addr) : ∀ (r : Rho) (i : Nat) (x : Option T), r.length ≤ i → cto a (r.set i x) = cto a r := fun r i x h => by
  rw [List.set_eq_of_length_le h]
theorem cts_append (a : Addr) : ∀ (l m : List T), cts a (l ++ m) = cts a l + cts a m
  | [], m => by simp [cts]
  | t :: l, m => by simp only [List.cons_append, cts, cts_append a l m]; omega
theorem cts_set (a : Addr) : ∀ (l : List T) (i : Nat) (t x : T), l[i]? = some t → cts a (l.set i x) + ct a t = cts a l + ct a x
  | [], i, t, x, h => by simp at h
  | y :: l, 0, t, x, h => by
    have e : y = t := by simpa using h
    subst e
    simp only [List.set_cons_zero, cts]
    omega
  | y :: l, i + 1, t, x, h => by
    have h' : l[i]? = some t := by simpa using h
    have := cts_set a l i t x h'
    simp only [List.set_cons_succ, cts]
    omega
theorem cto_get (a : Addr) : ∀ (r : Rho) (i : Nat) (t : T), r[i]? = some (some t) → ct a t ≤ cto a r
  | [], i, t, h => by simp at h
  | y :: r, 0, t, h => by
    have e : y = some t := by simpa using h
    subst e
    simp only [cto]
    omega
  | y :: r, i + 1, t, h => by
    have h' : r[i]? = some (some t) := by simpa using h
    have := cto_get a r i t h'
    rw [cto_cons]
    omega
mutual
theorem rt_mono {K : PySem.W.Frag} {Z Z' H H' : Hp} (e : Sub Z Z') : ∀ (t : T) (v : V), (∀ a, 0 < ct a t → ∀ o, H a = some o → H' a = some o) → RT K Z H t v → RT K Z' H' t v
  | .d x, v, _, h => by
    cases h with
    | d h => exact .d (dp_mono e x v h)
  | .v x, v, _, h => by cases h; exact .v
  | .sc a ns, v, _, h => by
    cases h with
    | sc h => exact .sc (e.L h)
  | .own a l, v, k, h => by
    cases h with
    | own h1 h2 => exact .own (k a (by simp only [ct, if_true]; omega) _ h1) (rts_mono e l _ (fun b hb => k b (by simp only [ct]; omega)) h2)
  | .tp l, v, k, h => by
    cases h with
    | tp h1 h2 => exact .tp (e _ _ h1) (rts_mono e l _ (fun b hb => k b (by simp only [ct]; omega)) h2)
theorem rts_mono {K : PySem.W.Frag} {Z Z' H H' : Hp} (e : Sub Z Z') : ∀ (l : List T) (vs : List V), (∀ a, 0 < cts a l → ∀ o, H a = some o → H' a = some o) → RTs K Z H l vs → RTs K Z' H' l vs
  | [], _, _, h => by cases h; exact .nil
  | t :: l, _, k, h => by
    cases h with
    | cons h1 h2 => exact .cons (rt_mono e t _ (fun a ha => k a (by simp only [cts]; omega)) h1) (rts_mono e l _ (fun a ha => k a (by simp only [cts]; omega)) h2)
end
mutual
def lft : T → Bool
  | .d x => LF x
  | .v _ => true
  | .sc _ _ => false
  | .own _ l => lfts l
  | .tp l => lfts l
def lfts : List T → Bool
  | [] => true
  | t :: l => lft t && lfts l
end
mutual
theorem rt_lf {K : PySem.W.Frag} {Z Z' H : Hp} (e : SubT Z Z') : ∀ (t : T) (v : V), lft t = true → RT K Z H t v → RT K Z' H t v
  | .d x, v, k, h => by
    cases h with
    | d h => exact .d (dp_lf e x v (by simpa [lft] using k) h)
  | .v x, v, _, h => by cases h; exact .v
  | .sc a ns, v, k, h => by simp [lft] at k
  | .own a l, v, k, h => by
    cases h with
    | own h1 h2 => exact .own h1 (rts_lf e l _ (by simpa [lft] using k) h2)
  | .tp l, v, k, h => by
    cases h with
    | tp h1 h2 => exact .tp (e _ _ h1 (fun _ q => nomatch q)) (rts_lf e l _ (by simpa [lft] using k) h2)
theorem rts_lf {K : PySem.W.Frag} {Z Z' H : Hp} (e : SubT Z Z') : ∀ (l : List T) (vs : List V), lfts l = true → RTs K Z H l vs → RTs K Z' H l vs
  | [], _, _, h => by cases h; exact .nil
  | t :: l, _, k, h => by
    have k' : lft t = true ∧ lfts l = true := by simpa [lfts] using k
    cases h with
    | cons h1 h2 => exact .cons (rt_lf e t _ k'.1 h1) (rts_lf e l _ k'.2 h2)
end
mutual
def fz : T → PyData
  | .d x => x
  | .v _ => .none
  | .sc _ _ => .none
  | .own _ l => .list (fzs l)
  | .tp l => .tuple (fzs l)
def fzs : List T → List PyData
  | [] => []
  | t :: l => fz t :: fzs l
end
mutual
def nv : T → Bool
  | .d _ => true
  | .v _ => false
  | .sc _ _ => false
  | .own _ l => nvs l
  | .tp l => nvs l
def nvs : List T → Bool
  | [] => true
  | t :: l => nv t && nvs l
end
mutual
theorem rt_fz {K : PySem.W.Frag} {Z Z' H : Hp} (e : Sub Z Z') : ∀ (t : T) (v : V), nv t = true → (∀ a, 0 < ct a t → ∀ o, H a = some o → Z' a = some o) → RT K Z H t v → Dq K Z' v (fz t)
  | .d x, v, _, _, h => by
    cases h with
    | d h => exact dp_mono e x v h
  | .v x, v, k, _, h => by simp [nv] at k
  | .sc a ns, v, k, _, h => by simp [nv] at k
  | .own a l, v, k, j, h => by
    cases h with
    | own h1 h2 => exact .lst (j a (by simp only [ct, if_true]; omega) _ h1) (rts_fz e l _ (by simpa [nv] using k) (fun b hb => j b (by simp only [ct]; omega)) h2)
  | .tp l, v, k, j, h => by
    cases h with
    | tp h1 h2 => exact .tup (e _ _ h1) (rts_fz e l _ (by simpa [nv] using k) (fun b hb => j b (by simp only [ct]; omega)) h2)
theorem rts_fz {K : PySem.W.Frag} {Z Z' H : Hp} (e : Sub Z Z') : ∀ (l : List T) (vs : List V), nvs l = true → (∀ a, 0 < cts a l → ∀ o, H a = some o → Z' a = some o) → RTs K Z H l vs → DqAll K Z' vs (fzs l)
  | [], _, _, _, h => by cases h; exact .nil
  | t :: l, _, k, j, h => by
    have k' : nv t = true ∧ nvs l = true := by simpa [nvs] using k
    cases h with
    | cons h1 h2 => exact .cons (rt_fz e t _ k'.1 (fun a ha => j a (by simp only [cts]; omega)) h1) (rts_fz e l _ k'.2 (fun a ha => j a (by simp only [cts]; omega)) h2)
end
mutual
/-- where a list of one's own stands it is tracked as a list -/
theorem rt_own {K : PySem.W.Frag} {Z H : Hp} {a : Addr} : ∀ (t : T) (v : V), RT K Z H t v → 0 < ct a t → ∃ xs, H a = some (.lst xs)
  | .d x, v, h, c => by simp [ct] at c
  | .v x, v, h, c => by simp [ct] at c
  | .sc b ns, v, h, c => by simp [ct] at c
  | .own b l, v, h, c => by
    cases h with
    | own h1 h2 =>
      by_cases e : b = a
      · subst e; exact ⟨_, h1⟩
      · exact rts_own l _ h2 (by simp only [ct, if_neg e] at c; omega)
  | .tp l, v, h, c => by
    cases h with
    | tp h1 h2 => exact rts_own l _ h2 (by simpa [ct] using c)
theorem rts_own {K : PySem.W.Frag} {Z H : Hp} {a : Addr} : ∀ (l : List T) (vs : List V), RTs K Z H l vs → 0 < cts a l → ∃ xs, H a = some (.lst xs)
  | [], _, h, c => by simp [cts] at c
  | t :: l, _, h, c => by
    cases h with
    | cons h1 h2 =>
      by_cases e : 0 < ct a t
      · exact rt_own t _ h1 e
      · exact rts_own l _ h2 (by simp only [cts] at c; omega)
end
/-- the state: data at Z (never changed), what is not ours at G, lists of our own: each at one place -/
structure S3 (K : PySem.W.Frag) (G Z H : Hp) (ks : List T) (vs : List V) (r : Rho) (s : L2.St) : Prop where
  zh : Sub Z H
  gh : Sub G H
  one : ∀ a, cts a ks + cto a r ≤ 1
  ow : ∀ a, 0 < cts a ks + cto a r → Z a = none ∧ G a = none
  stk : RTs K Z H ks vs
  slot : ∀ (i : Nat) (t : T), r[i]? = some (some t) → ∃ v, s[i]? = some (some v) ∧ RT K Z H t v
  len : r.length = s.length
section
variable {K : PySem.W.Frag} {G Z Z' H H' : Hp} {ks : List T} {vs : List V} {r r' : Rho} {s : L2.St} {t : T} {v : V} {i : Nat} {a : Addr}
theorem S3.owned (h : S3 K G Z H ks vs r s) (c : 0 < cts a ks + cto a r) : ∃ xs, H a = some (.lst xs) := by
  by_cases e : 0 < cts a ks
  · exact rts_own ks vs h.stk e
  · have c2 : 0 < cto a r := by omega
    have : ∀ (r : Rho), 0 < cto a r → ∃ (i : Nat) (t : T), r[i]? = some (some t) ∧ 0 < ct a t := by
      intro r
      induction r with
      | nil => intro z; simp [cto] at z
      | cons q r ih =>
        intro z
        rw [cto_cons] at z
        by_cases y : 0 < ctq a q
        · cases q with
          | none => simp [ctq] at y
          | some t => exact ⟨0, t, rfl, y⟩
        · obtain ⟨i, t, e1, e2⟩ := ih (by omega)
          exact ⟨i + 1, t, by simpa using e1, e2⟩
    obtain ⟨i, t, e1, e2⟩ := this r c2
    obtain ⟨v, _, q⟩ := h.slot i t e1
    exact rt_own t v q e2
/-- a new heap that leaves what we know as it is -/
theorem S3.grow (h : S3 K G Z H ks vs r s) (hz : Sub Z Z') (hh : ∀ a, 0 < cts a ks + cto a r → H' a = H a) (zh : Sub Z' H') (gh : Sub G H') (zn : ∀ a, 0 < cts a ks + cto a r → Z' a = none) : S3 K G Z' H' ks vs r s where
  zh := zh
  gh := gh
  one := h.one
  ow := fun a c => ⟨zn a c, (h.ow a c).2⟩
  stk := rts_mono hz ks vs (fun a c o e => by rw [hh a (by omega)]; exact e) h.stk
  slot := fun i t e => by
    obtain ⟨v, e1, q⟩ := h.slot i t e
    exact ⟨v, e1, rt_mono hz t v (fun a c o e' => by rw [hh a (by have := cto_get a r i t e; omega)]; exact e') q⟩
  len := h.len
/-- the topmost one dropped -/
theorem S3.pop (h : S3 K G Z H (t :: ks) (v :: vs) r s) : S3 K G Z H ks vs r s where
  zh := h.zh
  gh := h.gh
  one := fun a => by have := h.one a; simp only [cts] at this; omega
  ow := fun a c => h.ow a (by simp only [cts]; omega)
  stk := by cases h.stk with | cons _ q => exact q
  slot := h.slot
  len := h.len
theorem S3.top (h : S3 K G Z H (t :: ks) (v :: vs) r s) : RT K Z H t v := by cases h.stk with | cons q _ => exact q
/-- data put on top -/
theorem S3.push (h : S3 K G Z H ks vs r s) (c : ∀ a, ct a t = 0) (q : RT K Z H t v) : S3 K G Z H (t :: ks) (v :: vs) r s where
  zh := h.zh
  gh := h.gh
  one := fun a => by have := h.one a; have := c a; simp only [cts]; omega
  ow := fun a k => h.ow a (by have := c a; simp only [cts] at k; omega)
  stk := .cons q h.stk
  slot := h.slot
  len := h.len
theorem S3.pushD {x : PyData} (h : S3 K G Z H ks vs r s) (q : Dq K Z v x) : S3 K G Z H (.d x :: ks) (v :: vs) r s := h.push (fun _ => rfl) (.d q)
/-- a slot's tree taken out -/
theorem S3.take (h : S3 K G Z H ks vs r s) (e : r[i]? = some (some t)) : ∃ v, s[i]? = some (some v) ∧ S3 K G Z H (t :: ks) (v :: vs) (r.set i none) s := by
  obtain ⟨v, e1, q⟩ := h.slot i t e
  have cs : ∀ a, cto a (r.set i none) + ct a t = cto a r := fun a => by have := cto_set a r i (some t) none e; simpa [ctq] using this
  refine ⟨v, e1, ⟨h.zh, h.gh, fun a => ?_, fun a c => h.ow a ?_, .cons q h.stk, fun j u ej => ?_, by rw [List.length_set]; exact h.len⟩⟩
  · have := h.one a; have := cs a; simp only [cts]; omega
  · have := cs a; simp only [cts] at c; omega
  · by_cases hj : j = i
    · subst hj
      have : j < r.length := (List.getElem?_eq_some_iff.mp e).1
      rw [List.getElem?_set_self this] at ej
      cases ej
    · rw [List.getElem?_set_ne (Ne.symm hj)] at ej
      exact h.slot j u ej
/-- the topmost one put into a slot -/
theorem S3.put (h : S3 K G Z H (t :: ks) (v :: vs) r s) (hi : i < r.length) : S3 K G Z H ks vs (r.set i (some t)) (s.set i (some v)) where
  zh := h.zh
  gh := h.gh
  one := fun a => by
    have h1 := h.one a
    have h2 := cto_set a r i r[i] (some t) (List.getElem?_eq_getElem hi)
    simp only [cts] at h1
    simp only [ctq] at h2
    omega
  ow := fun a c => h.ow a (by
    have h2 := cto_set a r i r[i] (some t) (List.getElem?_eq_getElem hi)
    simp only [ctq] at h2
    simp only [cts]
    omega)
  stk := by cases h.stk with | cons _ q => exact q
  slot := fun j u ej => by
    by_cases hj : j = i
    · subst hj
      rw [List.getElem?_set_self hi] at ej
      cases ej
      exact ⟨v, by rw [List.getElem?_set_self (by rw [← h.len]; exact hi)], h.top⟩
    · rw [List.getElem?_set_ne (Ne.symm hj)] at ej
      obtain ⟨w, e1, q⟩ := h.slot j u ej
      exact ⟨w, by rw [List.getElem?_set_ne (Ne.symm hj)]; exact e1, q⟩
  len := by rw [List.length_set, List.length_set]; exact h.len
/-- .. where the very same object stands -/
theorem S3.back (h : S3 K G Z H (t :: ks) (v :: vs) r s) (hi : i < r.length) (e : s[i]? = some (some v)) : S3 K G Z H ks vs (r.set i (some t)) s := by
  have h1 := h.put hi
  have e2 : s.set i (some v) = s := by
    obtain ⟨hlt, e3⟩ := List.getElem?_eq_some_iff.mp e
    rw [← e3]
    exact List.set_getElem_self hlt
  rw [e2] at h1
  exact h1
/-- a slot forgotten -/
theorem S3.wipe (h : S3 K G Z H ks vs r s) : S3 K G Z H ks vs (r.set i none) (s.set i none) where
  zh := h.zh
  gh := h.gh
  one := fun a => by
    have h1 := h.one a
    by_cases hi : i < r.length
    · have h2 := cto_set a r i r[i] none (List.getElem?_eq_getElem hi)
      have h3 : ctq a none = 0 := rfl
      omega
    · rw [cto_set_ge a r i none (by omega)]; exact h1
  ow := fun a c => h.ow a (by
    by_cases hi : i < r.length
    · have h2 := cto_set a r i r[i] none (List.getElem?_eq_getElem hi)
      have h3 : ctq a none = 0 := rfl
      omega
    · rw [cto_set_ge a r i none (by omega)] at c; exact c)
  stk := h.stk
  slot := fun j u ej => by
    by_cases hj : j = i
    · subst hj
      have hi : j < r.length := by
        have := (List.getElem?_eq_some_iff.mp ej).1
        simpa using this
      rw [List.getElem?_set_self hi] at ej
      cases ej
    · rw [List.getElem?_set_ne (Ne.symm hj)] at ej
      obtain ⟨w, e1, q⟩ := h.slot j u ej
      exact ⟨w, by rw [List.getElem?_set_ne (Ne.symm hj)]; exact e1, q⟩
  len := by rw [List.length_set, List.length_set]; exact h.len
/-- a new object p is laid; what we know stays -/
theorem S3.laid {p : Addr} {o : HO} (h : S3 K G Z H ks vs r s) (hp : H p = none) : S3 K G Z (upd H p o) ks vs r s :=
  have zn : ∀ a u, H a = some u → a ≠ p := fun a u e q => by rw [q, hp] at e; cases e
  h.grow (Sub.refl _) (fun a c => by
    obtain ⟨xs, e⟩ := h.owned c
    rw [upd_ne (zn a _ e)]) (fun a u e => by rw [upd_ne (zn a u (h.zh a u e))]; exact h.zh a u e) (fun a u e => by rw [upd_ne (zn a u (h.gh a u e))]; exact h.gh a u e) fun a c => (h.ow a c).1
/-- .. and frozen -/
theorem S3.laidZ {p : Addr} {o : HO} (h : S3 K G Z H ks vs r s) (hp : H p = none) : Sub Z (upd Z p o) ∧ S3 K G (upd Z p o) (upd H p o) ks vs r s := by
  have hz : Z p = none := by
    cases q : Z p with
    | none => rfl
    | some u => have := h.zh p u q; rw [hp] at this; cases this
  have sz : Sub Z (upd Z p o) := fun a u e => by
    rw [upd_ne (fun q => by rw [q, hz] at e; cases e)]
    exact e
  have h1 := h.laid (o := o) hp
  refine ⟨sz, h1.grow sz (fun _ _ => rfl) (fun a u e => ?_) h1.gh fun a c => ?_⟩
  · by_cases q : a = p
    · subst q; rw [upd_same] at e ⊢; exact e
    · rw [upd_ne q] at e ⊢; exact h.zh a u e
  · obtain ⟨xs, e⟩ := h.owned c
    rw [upd_ne (fun q => by rw [q, hp] at e; cases e)]
    exact (h.ow a c).1
/-- several on top: as a list of one's own, newly laid -/
theorem S3.mkOwn {l : List T} {xs : List V} {p : Addr} (h : S3 K G Z H (l ++ ks) (xs ++ vs) r s) (hl : l.length = xs.length) (hp : H p = none) : S3 K G Z (upd H p (.lst xs)) (.own p l :: ks) (.ref p :: vs) r s := by
  have h1 := h.laid (o := .lst xs) hp
  have cp : cts p (l ++ ks) + cto p r = 0 := by
    by_cases c : 0 < cts p (l ++ ks) + cto p r
    · obtain ⟨ys, e⟩ := h.owned c
      rw [hp] at e; cases e
    · omega
  have split : ∀ (H2 : Hp) (l : List T) (xs : List V), l.length = xs.length → RTs K Z H2 (l ++ ks) (xs ++ vs) → RTs K Z H2 l xs ∧ RTs K Z H2 ks vs := by
    intro H2 l
    induction l with
    | nil => intro xs hl q; cases xs with | nil => exact ⟨.nil, q⟩ | cons _ _ => simp at hl
    | cons t l ih =>
      intro xs hl q
      cases xs with
      | nil => simp at hl
      | cons x xs =>
        cases q with
        | cons q1 q2 =>
          obtain ⟨z1, z2⟩ := ih xs (by simpa using hl) q2
          exact ⟨.cons q1 z1, z2⟩
  obtain ⟨q1, q2⟩ := split _ l xs hl h1.stk
  refine ⟨h1.zh, h1.gh, fun a => ?_, fun a c => ?_, .cons (.own upd_same q1) q2, h1.slot, h1.len⟩
  · have := h.one a
    rw [cts_append] at this cp
    simp only [cts, ct]
    by_cases e : p = a
    · subst e; simp; omega
    · simp only [if_neg e]; omega
  · simp only [cts, ct] at c
    by_cases e : p = a
    · subst e
      constructor
      · cases q : Z p with
        | none => rfl
        | some u => have := h.zh p u q; rw [hp] at this; cases this
      · cases q : G p with
        | none => rfl
        | some u => have := h.gh p u q; rw [hp] at this; cases this
    · simp only [if_neg e] at c
      exact h.ow a (by rw [cts_append]; omega)
end
end L3
namespace L3
open PySem PySem.Spec PyProof.Rows L2
/-- data is added; what is not ours is not made ours -/
structure Gr (G Z Z' : Hp) : Prop where
  sub : Sub Z Z'
  out : ∀ a o, G a = some o → Z a = none → Z' a = none
theorem Gr.refl (G Z : Hp) : Gr G Z Z := ⟨Sub.refl Z, fun _ _ _ h => h⟩
theorem Gr.trans {G A B C : Hp} (h : Gr G A B) (k : Gr G B C) : Gr G A C := ⟨h.sub.trans k.sub, fun a o e n => k.out a o e (h.out a o e n)⟩
section
variable {K : PySem.W.Frag} {G Z Z' H H' : Hp} {ks : List T} {vs : List V} {r r' : Rho} {s : L2.St} {t : T} {v : V} {i : Nat} {a : Addr}
theorem S3.freezeG (h : S3 K G Z H (t :: ks) (v :: vs) r s) (n : nv t = true) : ∃ Z', Gr G Z Z' ∧ S3 K G Z' H (.d (fz t) :: ks) (v :: vs) r s := by
  have sz : Sub Z (fun a => if 0 < ct a t then H a else Z a) := fun a o e => by
    show (if 0 < ct a t then H a else Z a) = some o
    split
    · exact h.zh a o e
    · exact e
  have hp : S3 K G (fun a => if 0 < ct a t then H a else Z a) H ks vs r s := h.pop.grow sz (fun _ _ => rfl) (fun a o e => by
      by_cases c : 0 < ct a t
      · simpa [c] using e
      · simp [c] at e; exact h.zh a o e) h.gh (fun a c => by
      have h1 := h.one a
      simp only [cts] at h1
      rw [if_neg (by omega)]
      exact (h.ow a (by simp only [cts]; omega)).1)
  refine ⟨_, ⟨sz, fun a o e n => ?_⟩, hp.pushD (rt_fz sz t v n (fun a c o e => by show (if 0 < ct a t then H a else Z a) = some o; rw [if_pos c]; exact e) h.top)⟩
  show (if 0 < ct a t then H a else Z a) = none
  by_cases c : 0 < ct a t
  · have := (h.ow a (by simp only [cts]; omega)).2
    rw [this] at e; cases e
  · rw [if_neg c]; exact n
theorem S3.laidG {p : Addr} {o : HO} (h : S3 K G Z H ks vs r s) (hp : H p = none) : Gr G Z (upd Z p o) ∧ S3 K G (upd Z p o) (upd H p o) ks vs r s := by
  obtain ⟨h1, h2⟩ := h.laidZ (o := o) hp
  refine ⟨⟨h1, fun a u e n => ?_⟩, h2⟩
  rw [upd_ne (fun q => by rw [q] at e; have := h.gh p u e; rw [hp] at this; cases this)]
  exact n
end
abbrev TE3 := Rho → (T → Rho → Prop) → Prop
abbrev TT3 := Rho → (Bool → Rho → Prop) → Prop
/-- what a value read is, as long as data is only added -/
def Pv (K : PySem.W.Frag) (Z : Hp) (r : Rho) (s : L2.St) (t : T) (v : V) : Prop :=
  match t with
  | .d x => Dq K Z v x
  | .v x => v = x
  | .sc a ns => v = .ref a ∧ SqL K Z a (ns.map V.int)
  | t => ∀ G Z' H ks vs, Sub Z Z' → S3 K G Z' H ks vs r s → RT K Z' H t v
/-- an expression whose value is put on top (a new list, or data) -/
structure P3 (X : Cx) (e : Expr) (t : TE3) : Prop where
  ex : ∃ te : TE, PE X e te ∧ ∀ (G Z H : Hp) (ks : List T) (vs : List V) (r : Rho) (s : L2.St) (Q : VK) (Q3 : T → Rho → Prop), S3 X.K G Z H ks vs r s → t r Q3 →
    (∀ Z' H' x v r', Gr G Z Z' → S3 X.K G Z' H' (x :: ks) (v :: vs) r' s → Q3 x r' → Q v H') → te s H Q
/-- an expression whose value is read -/
structure R3 (X : Cx) (e : Expr) (t : TE3) : Prop where
  ex : ∃ te : TE, PE X e te ∧ ∀ (G Z H : Hp) (ks : List T) (vs : List V) (r : Rho) (s : L2.St) (Q : VK) (Q3 : T → Rho → Prop), S3 X.K G Z H ks vs r s → t r Q3 →
    (∀ Z' H' x v r', Gr G Z Z' → S3 X.K G Z' H' ks vs r' s → Pv X.K Z' r' s x v → Q3 x r' → Q v H') → te s H Q
/-- a test -/
structure T3 (X : Cx) (e : Expr) (t : TT3) : Prop where
  ex : ∃ te : TT, PT X e te ∧ ∀ (G Z H : Hp) (ks : List T) (vs : List V) (r : Rho) (s : L2.St) (Q : Bool → Hp → Prop) (Q3 : Bool → Rho → Prop), S3 X.K G Z H ks vs r s → t r Q3 →
    (∀ Z' H' b r', Gr G Z Z' → S3 X.K G Z' H' ks vs r' s → Q3 b r' → Q b H') → te s H Q
/-- .. whatever its whole is (and, or) -/
structure W3 (X : Cx) (e : Expr) (t : TT3) : Prop where
  ex : ∃ te : TT, PW X e te ∧ ∀ (G Z H : Hp) (ks : List T) (vs : List V) (r : Rho) (s : L2.St) (Q : Bool → Hp → Prop) (Q3 : Bool → Rho → Prop), S3 X.K G Z H ks vs r s → t r Q3 →
    (∀ Z' H' b r', Gr G Z Z' → S3 X.K G Z' H' ks vs r' s → Q3 b r' → Q b H') → te s H Q
section
variable {K : PySem.W.Frag} {G Z Z' H H' : Hp} {ks : List T} {vs : List V} {r r' : Rho} {s : L2.St} {t : T} {v : V} {i : Nat} {a : Addr}
theorem Pv.keep (h : Pv K Z r s t v) (z : Sub Z Z') : Pv K Z' r s t v := by
  cases t with
  | d x => exact dp_mono z x v h
  | v x => exact h
  | sc a ns => exact ⟨h.1, z.L h.2⟩
  | own a l => exact fun G Z2 H ks vs q => h G Z2 H ks vs (z.trans q)
  | tp l => exact fun G Z2 H ks vs q => h G Z2 H ks vs (z.trans q)
theorem Pv.now (h : Pv K Z r s t v) (q : S3 K G Z H ks vs r s) : RT K Z H t v := by
  cases t with
  | d x => exact .d h
  | v x => rw [show v = x from h]; exact .v
  | sc a ns => rw [show v = .ref a from h.1]; exact .sc h.2
  | own a l => exact h G Z H ks vs (Sub.refl _) q
  | tp l => exact h G Z H ks vs (Sub.refl _) q
/-- a read value as data, over the whole heap -/
theorem Pv.data (h : Pv K Z r s t v) (q : S3 K G Z H ks vs r s) (n : nv t = true) : Dq K H v (fz t) := rt_fz q.zh t v n (fun _ _ _ e => e) (h.now q)
theorem Pv.int {i : Int} (h : Pv K Z r s (.d (.int i)) v) : v = .int i := by
  cases (show Dq K Z v (.int i) from h)
  rfl
theorem Pv.bool {b : Bool} (h : Pv K Z r s (.d (.bool b)) v) : v = .bl b := by
  cases (show Dq K Z v (.bool b) from h)
  rfl
theorem Pv.str {x : Str} (h : Pv K Z r s (.d (.str x)) v) : v = .str x := by
  cases (show Dq K Z v (.str x) from h)
  rfl
end
/-- the first of two values read, behind the second one -/
structure Pv2 (K : PySem.W.Frag) (Z : Hp) (r1 r2 : Rho) (s : L2.St) (t : T) (v : V) : Prop where
  dat : ∀ x, t = .d x → Dq K Z v x
  val : ∀ x, t = .v x → v = x
  scr : ∀ a ns, t = .sc a ns → v = .ref a ∧ SqL K Z a (ns.map V.int)
  same : r2 = r1 → Pv K Z r2 s t v
theorem Pv.two {K : PySem.W.Frag} {Z Z' : Hp} {r1 r2 : Rho} {s : L2.St} {t : T} {v : V} (h : Pv K Z r1 s t v) (z : Sub Z Z') : Pv2 K Z' r1 r2 s t v :=
  ⟨fun x e => by subst e; exact dp_mono z x v h, fun x e => by subst e; exact h, fun a ns e => by subst e; exact ⟨h.1, z.L h.2⟩, fun e => by subst e; exact h.keep z⟩
theorem Pv2.int {K : PySem.W.Frag} {Z : Hp} {r1 r2 : Rho} {s : L2.St} {i : Int} {v : V} (h : Pv2 K Z r1 r2 s (.d (.int i)) v) : v = .int i := by
  cases h.dat _ rfl
  rfl
/-! ### what a value is -/
def asI (t : T) (k : Int → Prop) : Prop := match t with | .d (.int i) => k i | _ => False
def asB (t : T) (k : Bool → Prop) : Prop := match t with | .d (.bool b) => k b | _ => False
theorem asI_of {t : T} {k : Int → Prop} (h : asI t k) : ∃ i, t = .d (.int i) ∧ k i := by
  unfold asI at h
  split at h
  · exact ⟨_, rfl, h⟩
  · exact h.elim
theorem asB_of {t : T} {k : Bool → Prop} (h : asB t k) : ∃ i, t = .d (.bool i) ∧ k i := by
  unfold asB at h
  split at h
  · exact ⟨_, rfl, h⟩
  · exact h.elim
section
variable {X : Cx} {e a b c : Expr} {t ta tb tc : TE3} {pos : Pos}
/-! ### from one reading to the other -/
/-- data read is data on top -/
def xD (t : TE3) : TE3 := fun r Q => t r fun x r' => match x with | .d y => Q (.d y) r' | .v y => Q (.v y) r' | .sc a ns => Q (.sc a ns) r' | _ => False
theorem p3 (h : R3 X e t) : P3 X e (xD t) := by
  obtain ⟨te, he, hs⟩ := h.ex
  refine ⟨te, he, fun G Z H ks vs r s Q Q3 st ht k => hs G Z H ks vs r s Q _ st ht fun Z' H' x v r' gr st' pv q => ?_⟩
  cases x with
  | d y => exact k Z' H' (.d y) v r' gr (st'.pushD pv) q
  | v y => exact k Z' H' (.v y) v r' gr (st'.push (fun _ => rfl) (by rw [show v = y from pv]; exact .v)) q
  | sc a ns => exact k Z' H' (.sc a ns) v r' gr (st'.push (fun _ => rfl) (by rw [show v = .ref a from pv.1]; exact .sc pv.2)) q
  | own a l => exact q.elim
  | tp l => exact q.elim
/-- what is on top is frozen and read -/
def xFz (t : TE3) : TE3 := fun r Q => t r fun x r' => match x with | .d y => Q (.d y) r' | .v y => Q (.v y) r' | .sc a ns => Q (.sc a ns) r' | x => nv x = true ∧ Q (.d (fz x)) r'
theorem r3 (h : P3 X e t) : R3 X e (xFz t) := by
  obtain ⟨te, he, hs⟩ := h.ex
  refine ⟨te, he, fun G Z H ks vs r s Q Q3 st ht k => hs G Z H ks vs r s Q _ st ht fun Z' H' x v r' gr st' q => ?_⟩
  have fin : ∀ x : T, nv x = true → S3 X.K G Z' H' (x :: ks) (v :: vs) r' s → Q3 (.d (fz x)) r' → Q v H' := fun x n st' q => by
    obtain ⟨Z2, g2, st2⟩ := st'.freezeG n
    have h := st2.top
    cases h with
    | d h => exact k Z2 H' (.d (fz x)) v r' (gr.trans g2) st2.pop h q
  cases x with
  | d y => exact fin (.d y) rfl st' q
  | v y =>
    have h := st'.top
    have e1 : v = y := by cases h; rfl
    exact k Z' H' (.v y) v r' gr st'.pop e1 q
  | sc a ns =>
    have h := st'.top
    cases h with
    | sc h => exact k Z' H' (.sc a ns) _ r' gr st'.pop ⟨rfl, h⟩ q
  | own a l => exact fin _ q.1 st' q.2
  | tp l => exact fin _ q.1 st' q.2
/-! ### names, constants -/
def xView (i : Nat) : TE3 := fun r Q => match r[i]? with | some (some t) => Q t r | _ => False
theorem view_of {i : Nat} {r : Rho} {Q : T → Rho → Prop} (h : xView i r Q) : ∃ t, r[i]? = some (some t) ∧ Q t r := by
  unfold xView at h
  split at h
  · exact ⟨_, by assumption, h⟩
  · exact h.elim
theorem r3_name (i : Nat) {x : Str} (hN : X.N[i]? = some x := by rfl) (hv : Vis X.env.scope x := by first | exact Or.inl rfl | exact Or.inr (Or.inl rfl) | exact Or.inr (Or.inr rfl)) (hd : (x == ("__debug__" : Str)) = false := by decide)
    (hcd : (x == ("__classdict__" : Str)) = false := by decide) : R3 X (.Name x pos) (xView i) := by
  refine ⟨tVar i, pe_var hN hv hd hcd, fun G Z H ks vs r s Q Q3 st ht k => ?_⟩
  obtain ⟨t, e, q⟩ := view_of ht
  obtain ⟨v, ev, rt⟩ := st.slot i t e
  refine ⟨v, ev, k Z H t v r (Gr.refl _ _) st ?_ q⟩
  have gen : ∀ G Z' H ks vs, Sub Z Z' → S3 X.K G Z' H ks vs r s → RT X.K Z' H t v := fun G Z' H ks vs _ st' => by
    obtain ⟨v', ev', rt'⟩ := st'.slot i t e
    rw [ev] at ev'; cases ev'
    exact rt'
  cases t with
  | d x => cases rt with | d h => exact h
  | v x => cases rt; rfl
  | sc a ns => cases rt with | sc h => exact ⟨rfl, h⟩
  | own a l => exact gen
  | tp l => exact gen
/-- a name whose own list is moved away -/
def xMove (i : Nat) : TE3 := fun r Q => match r[i]? with | some (some (.d x)) => Q (.d x) r | some (some (.v x)) => Q (.v x) r | some (some (.sc a ns)) => Q (.sc a ns) r | some (some t) => Q t (r.set i none) | _ => False
theorem p3_move (i : Nat) {x : Str} (hN : X.N[i]? = some x := by rfl) (hv : Vis X.env.scope x := by first | exact Or.inl rfl | exact Or.inr (Or.inl rfl) | exact Or.inr (Or.inr rfl)) (hd : (x == ("__debug__" : Str)) = false := by decide)
    (hcd : (x == ("__classdict__" : Str)) = false := by decide) : P3 X (.Name x pos) (xMove i) := by
  refine ⟨tVar i, pe_var hN hv hd hcd, fun G Z H ks vs r s Q Q3 st ht k => ?_⟩
  unfold xMove at ht
  split at ht
  · rename_i x e
    obtain ⟨v, ev, rt⟩ := st.slot i _ e
    exact ⟨v, ev, k Z H _ v r (Gr.refl _ _) (st.push (fun _ => rfl) rt) ht⟩
  · rename_i x e
    obtain ⟨v, ev, rt⟩ := st.slot i _ e
    exact ⟨v, ev, k Z H _ v r (Gr.refl _ _) (st.push (fun _ => rfl) rt) ht⟩
  · rename_i a ns e
    obtain ⟨v, ev, rt⟩ := st.slot i _ e
    exact ⟨v, ev, k Z H _ v r (Gr.refl _ _) (st.push (fun _ => rfl) rt) ht⟩
  · rename_i t _ _ _ e
    obtain ⟨v, ev, st'⟩ := st.take e
    exact ⟨v, ev, k Z H _ v _ (Gr.refl _ _) st' ht⟩
  · exact ht.elim
def xC (x : PyData) : TE3 := fun r Q => Q (.d x) r
theorem r3_int {i : Int} {j} : R3 X (.Constant (.int i) j pos) (xC (.int i)) := ⟨_, pe_int, fun G Z H ks vs r s Q Q3 st ht k => k Z H (.d (.int i)) _ r (Gr.refl _ _) st (Dq.int i) ht⟩
theorem r3_bool {i : Bool} {j} : R3 X (.Constant (.bool i) j pos) (xC (.bool i)) := ⟨_, pe_bl, fun G Z H ks vs r s Q Q3 st ht k => k Z H (.d (.bool i)) _ r (Gr.refl _ _) st (Dq.bl i) ht⟩
/-! ### two operands -/
/-- what is made of two values read: the state ahead of the second one's reading, both, the state -/
abbrev C2 := Rho → T → T → TE3
def x2 (c : C2) (ta tb : TE3) : TE3 := fun r Q => ta r fun x r1 => tb r1 fun y r2 => c r1 x y r2 Q
def Con2 (X : Cx) (rd : R2) (c : C2) : Prop := ∀ (G Z H : Hp) (ks : List T) (vs : List V) (r1 r : Rho) (s : L2.St) (x y : V) (tx ty : T) (Q : VK) (Q3 : T → Rho → Prop), S3 X.K G Z H ks vs r s → Pv2 X.K Z r1 r s tx x → Pv X.K Z r s ty y → c r1 tx ty r Q3 →
  (∀ Z' H' t v r', Gr G Z Z' → S3 X.K G Z' H' ks vs r' s → Pv X.K Z' r' s t v → Q3 t r' → Q v H') → rd x y H Q
def Con2P (X : Cx) (rd : R2) (c : C2) : Prop := ∀ (G Z H : Hp) (ks : List T) (vs : List V) (r1 r : Rho) (s : L2.St) (x y : V) (tx ty : T) (Q : VK) (Q3 : T → Rho → Prop), S3 X.K G Z H ks vs r s → Pv2 X.K Z r1 r s tx x → Pv X.K Z r s ty y → c r1 tx ty r Q3 →
  (∀ Z' H' t v r', Gr G Z Z' → S3 X.K G Z' H' (t :: ks) (v :: vs) r' s → Q3 t r' → Q v H') → rd x y H Q
theorem two_run {rd : R2} {c : C2} (hc : Con2 X rd c) {tea teb : TE} (ha : ∀ (G Z H : Hp) (ks : List T) (vs : List V) (r : Rho) (s : L2.St) (Q : VK) (Q3 : T → Rho → Prop), S3 X.K G Z H ks vs r s → ta r Q3 →
    (∀ Z' H' x v r', Gr G Z Z' → S3 X.K G Z' H' ks vs r' s → Pv X.K Z' r' s x v → Q3 x r' → Q v H') → tea s H Q)
    (hb : ∀ (G Z H : Hp) (ks : List T) (vs : List V) (r : Rho) (s : L2.St) (Q : VK) (Q3 : T → Rho → Prop), S3 X.K G Z H ks vs r s → tb r Q3 →
    (∀ Z' H' x v r', Gr G Z Z' → S3 X.K G Z' H' ks vs r' s → Pv X.K Z' r' s x v → Q3 x r' → Q v H') → teb s H Q) :
    ∀ (G Z H : Hp) (ks : List T) (vs : List V) (r : Rho) (s : L2.St) (Q : VK) (Q3 : T → Rho → Prop), S3 X.K G Z H ks vs r s → x2 c ta tb r Q3 →
    (∀ Z' H' x v r', Gr G Z Z' → S3 X.K G Z' H' ks vs r' s → Pv X.K Z' r' s x v → Q3 x r' → Q v H') → tOp rd tea teb s H Q :=
  fun G Z H ks vs r s Q Q3 st ht k => ha G Z H ks vs r s _ _ st ht fun Z1 H1 x v r1 g1 st1 p1 q1 => hb G Z1 H1 ks vs r1 s _ _ st1 q1 fun Z2 H2 y u r2 g2 st2 p2 q2 =>
    hc G Z2 H2 ks vs r1 r2 s v u x y Q Q3 st2 (p1.two g2.sub) p2 q2 fun Z3 H3 t w r3 g3 => k Z3 H3 t w r3 ((g1.trans g2).trans g3)
theorem r3_op {op : Operator} {rd : R2} {c : C2} (ho : OpR X (binaryOp op) rd) (hc : Con2 X rd c) (ha : R3 X a ta) (hb : R3 X b tb) : R3 X (.BinOp a op b pos) (x2 c ta tb) := by
  obtain ⟨tea, ea, sa⟩ := ha.ex
  obtain ⟨teb, eb, sb⟩ := hb.ex
  exact ⟨_, pe_op ho ea eb, two_run hc sa sb⟩
theorem p3_op {op : Operator} {rd : R2} {c : C2} (ho : OpR X (binaryOp op) rd) (hc : Con2P X rd c) (ha : R3 X a ta) (hb : R3 X b tb) : P3 X (.BinOp a op b pos) (x2 c ta tb) := by
  obtain ⟨tea, ea, sa⟩ := ha.ex
  obtain ⟨teb, eb, sb⟩ := hb.ex
  exact ⟨_, pe_op ho ea eb, fun G Z H ks vs r s Q Q3 st ht k => sa G Z H ks vs r s _ _ st ht fun Z1 H1 x v r1 g1 st1 p1 q1 => sb G Z1 H1 ks vs r1 s _ _ st1 q1 fun Z2 H2 y u r2 g2 st2 p2 q2 =>
    hc G Z2 H2 ks vs r1 r2 s v u x y Q Q3 st2 (p1.two g2.sub) p2 q2 fun Z3 H3 t w r3 g3 => k Z3 H3 t w r3 ((g1.trans g2).trans g3)⟩
theorem r3_cmp {op : CmpOp} {rd : R2} {c : C2} (ho : OpR X (compareOp op) rd) (hc : Con2 X rd c) (ha : R3 X a ta) (hb : R3 X b tb) (hm : behindInMarks op b = false) : R3 X (.Compare a [op] [b] pos) (x2 c ta tb) := by
  obtain ⟨tea, ea, sa⟩ := ha.ex
  obtain ⟨teb, eb, sb⟩ := hb.ex
  exact ⟨_, pe_cmpR ho ea eb hm, two_run hc sa sb⟩
/-- a value that is a truth, as a test -/
def xTest (t : TE3) : TT3 := fun r Q => t r fun x r' => asB x fun b => Q b r'
theorem t3_cmp {op : CmpOp} {rd : R2} {c : C2} (ho : OpR X (compareOp op) rd) (hc : Con2 X rd c) (ha : R3 X a ta) (hb : R3 X b tb) (hm : behindInMarks op b = false) : T3 X (.Compare a [op] [b] pos) (xTest (x2 c ta tb)) := by
  obtain ⟨tea, ea, sa⟩ := ha.ex
  obtain ⟨teb, eb, sb⟩ := hb.ex
  refine ⟨_, pt_cmpR ho ea eb hm, fun G Z H ks vs r s Q Q3 st ht k => two_run hc sa sb G Z H ks vs r s _ _ st ht fun Z' H' x v r' g st' pv q => ?_⟩
  obtain ⟨b, rfl, q⟩ := asB_of q
  exact ⟨b, pv.bool, k Z' H' b r' g st' q⟩
theorem t3_val (h : R3 X e t) (he : ∀ whole, isTrue e X.env whole = (do let v ← whole; standAt e.pos; holding [v] (truthy v)) := by intro _; rfl) : T3 X e (xTest t) := by
  obtain ⟨te, ea, sa⟩ := h.ex
  refine ⟨_, pt_val ea he, fun G Z H ks vs r s Q Q3 st ht k => sa G Z H ks vs r s _ _ st ht fun Z' H' x v r' g st' pv q => ?_⟩
  obtain ⟨b, rfl, q⟩ := asB_of q
  exact ⟨b, pv.bool, k Z' H' b r' g st' q⟩
/-- two ints -/
def cI (C : Int → Int → Prop) (g : Int → Int → PyData) : C2 := fun _ x y r Q => asI x fun i => asI y fun j => C i j ∧ Q (.d (g i j)) r
def isScal : PyData → V → Prop
  | .int i, v => v = .int i
  | .bool b, v => v = .bl b
  | _, _ => False
theorem isScal.dp {K : PySem.W.Frag} {Z : Hp} {x : PyData} {v : V} (h : isScal x v) : Dq K Z v x := by
  cases x with
  | int i => rw [show v = .int i from h]; exact .int i
  | bool b => rw [show v = .bl b from h]; exact .bl b
  | none => exact False.elim h
  | str _ => exact False.elim h
  | list _ => exact False.elim h
  | tuple _ => exact False.elim h
  | dict _ => exact False.elim h
theorem con_I {C C' : Int → Int → Prop} {g : Int → Int → PyData} {g' : Int → Int → V} (hC : ∀ i j, C i j → C' i j) (hg : ∀ i j, C i j → isScal (g i j) (g' i j)) : Con2 X (rI C' g') (cI C g) :=
  fun G Z H ks vs r1 r s x y tx ty Q Q3 st px py hc k => by
    obtain ⟨i, rfl, h1⟩ := asI_of hc
    obtain ⟨j, rfl, h2, q⟩ := asI_of h1
    exact ⟨i, j, px.int, py.int, hC i j h2, k Z H (.d (g i j)) _ r (Gr.refl _ _) st (hg i j h2).dp q⟩
def cI0 (g : Int → Int → PyData) : C2 := fun _ x y r Q => asI x fun i => asI y fun j => Q (.d (g i j)) r
theorem con_I0 {g : Int → Int → PyData} {g' : Int → Int → V} (hg : ∀ i j, isScal (g i j) (g' i j)) : Con2 X (rI0 g') (cI0 g) :=
  fun G Z H ks vs r1 r s x y tx ty Q Q3 st px py hc k => by
    obtain ⟨i, rfl, h1⟩ := asI_of hc
    obtain ⟨j, rfl, q⟩ := asI_of h1
    exact ⟨i, j, px.int, py.int, k Z H (.d (g i j)) _ r (Gr.refl _ _) st (hg i j).dp q⟩
/-- two factors: one is small, or both are not too long -/
def MulOk (i j : Int) : Prop := CMul i j ∨ CMulW i j
theorem MulOk.ok {i j : Int} (h : MulOk i j) : IntMulOk i j := h.elim CMul.ok CMulW.ok
theorem op_mul3 : OpR X (binaryOp .Mult) (rI MulOk fun i j => .int (i * j)) := opI fun _ _ _ _ _ _ _ hc q => mul_int q hc.ok
theorem r3_add (ha : R3 X a ta) (hb : R3 X b tb) : R3 X (.BinOp a .Add b pos) (x2 (cI0 fun i j => .int (i + j)) ta tb) := r3_op op_add (con_I0 fun _ _ => rfl) ha hb
theorem r3_sub (ha : R3 X a ta) (hb : R3 X b tb) : R3 X (.BinOp a .Sub b pos) (x2 (cI0 fun i j => .int (i - j)) ta tb) := r3_op op_sub (con_I0 fun _ _ => rfl) ha hb
theorem r3_mul (ha : R3 X a ta) (hb : R3 X b tb) : R3 X (.BinOp a .Mult b pos) (x2 (cI MulOk fun i j => .int (i * j)) ta tb) := r3_op op_mul3 (con_I (fun _ _ h => h) fun _ _ _ => rfl) ha hb
theorem r3_fdiv (ha : R3 X a ta) (hb : R3 X b tb) : R3 X (.BinOp a .FloorDiv b pos) (x2 (cI CDivW fun i j => .int (i / j)) ta tb) := r3_op op_fdivW (con_I (fun _ _ h => h) fun _ _ _ => rfl) ha hb
theorem r3_mod (ha : R3 X a ta) (hb : R3 X b tb) : R3 X (.BinOp a .Mod b pos) (x2 (cI (fun _ j => 0 < j) fun i j => .int (i % j)) ta tb) := r3_op op_mod (con_I (fun _ _ h => h) fun _ _ _ => rfl) ha hb
theorem r3_pow (ha : R3 X a ta) (hb : R3 X b tb) : R3 X (.BinOp a .Pow b pos) (x2 (cI CPow fun i j => .int (i ^ j.toNat)) ta tb) := r3_op op_pow (con_I (fun _ _ h => h) fun _ _ _ => rfl) ha hb
theorem con_cmp {p : Int → Int → Bool} : Con2 X (rI0 fun i j => .bl (p i j)) (cI0 fun i j => .bool (p i j)) := con_I0 fun _ _ => rfl
theorem r3_le (ha : R3 X a ta) (hb : R3 X b tb) : R3 X (.Compare a [.LtE] [b] pos) (x2 (cI0 fun i j => .bool (decide (i ≤ j))) ta tb) := r3_cmp op_le con_cmp ha hb (nomark _)
theorem r3_gt (ha : R3 X a ta) (hb : R3 X b tb) : R3 X (.Compare a [.Gt] [b] pos) (x2 (cI0 fun i j => .bool (decide (j < i))) ta tb) := r3_cmp op_gt con_cmp ha hb (nomark _)
theorem r3_ge (ha : R3 X a ta) (hb : R3 X b tb) : R3 X (.Compare a [.GtE] [b] pos) (x2 (cI0 fun i j => .bool (decide (j ≤ i))) ta tb) := r3_cmp op_ge con_cmp ha hb (nomark _)
theorem t3_lt (ha : R3 X a ta) (hb : R3 X b tb) : T3 X (.Compare a [.Lt] [b] pos) (xTest (x2 (cI0 fun i j => .bool (decide (i < j))) ta tb)) := t3_cmp op_lt con_cmp ha hb (nomark _)
theorem t3_gt (ha : R3 X a ta) (hb : R3 X b tb) : T3 X (.Compare a [.Gt] [b] pos) (xTest (x2 (cI0 fun i j => .bool (decide (j < i))) ta tb)) := t3_cmp op_gt con_cmp ha hb (nomark _)
theorem t3_ge (ha : R3 X a ta) (hb : R3 X b tb) : T3 X (.Compare a [.GtE] [b] pos) (xTest (x2 (cI0 fun i j => .bool (decide (j ≤ i))) ta tb)) := t3_cmp op_ge con_cmp ha hb (nomark _)
/-- == of data (lists of one's own are read) -/
def asF (r1 r : Rho) (t : T) (k : PyData → Prop) : Prop := match t with | .d x => k x | .v _ => False | .sc _ _ => False | t => r = r1 ∧ nv t = true ∧ k (fz t)
theorem asF_of {K : PySem.W.Frag} {G Z H : Hp} {ks : List T} {vs : List V} {r1 r : Rho} {s : L2.St} {t : T} {v : V} {k : PyData → Prop} (h : asF r1 r t k) (st : S3 K G Z H ks vs r s) (p : Pv2 K Z r1 r s t v) : ∃ x, (x.canLay0 = true → Dp K H v x) ∧ k x := by
  cases t with
  | d x => exact ⟨x, fun c => dq_dp _ _ c (dp_mono st.zh x v (p.dat x rfl)), h⟩
  | v x => exact h.elim
  | sc _ _ => exact h.elim
  | own a l => exact ⟨_, fun c => dq_dp _ _ c ((p.same h.1).data st h.2.1), h.2.2⟩
  | tp l => exact ⟨_, fun c => dq_dp _ _ c ((p.same h.1).data st h.2.1), h.2.2⟩
theorem Pv.self {K : PySem.W.Frag} {Z : Hp} {r : Rho} {s : L2.St} {t : T} {v : V} (h : Pv K Z r s t v) : Pv2 K Z r r s t v := h.two (Sub.refl _)
def cEq (g : Bool → Bool) : C2 := fun r1 x y r Q => asF r1 r x fun d => asF r r y fun e => SeqAt.shaped d = true ∧ SeqAt.shaped e = true ∧ Q (.d (.bool (g (PyData.eqv d e)))) r
theorem con_eq : Con2 X (rEqD X.K) (cEq fun b => b) := fun G Z H ks vs r1 r s x y tx ty Q Q3 st px py hc k => by
  obtain ⟨d, hd, hc⟩ := asF_of hc st px
  obtain ⟨e, he, h1, h2, q⟩ := asF_of hc st py.self
  exact ⟨d, e, hd (SeqAt.canLay_of_shaped h1), he (SeqAt.canLay_of_shaped h2), h1, h2, k Z H (.d (.bool _)) _ r (Gr.refl _ _) st (Dq.bl _) q⟩
theorem con_ne : Con2 X (rNeD X.K) (cEq fun b => !b) := fun G Z H ks vs r1 r s x y tx ty Q Q3 st px py hc k => by
  obtain ⟨d, hd, hc⟩ := asF_of hc st px
  obtain ⟨e, he, h1, h2, q⟩ := asF_of hc st py.self
  exact ⟨d, e, hd (SeqAt.canLay_of_shaped h1), he (SeqAt.canLay_of_shaped h2), h1, h2, k Z H (.d (.bool _)) _ r (Gr.refl _ _) st (Dq.bl _) q⟩
theorem r3_eq (hu : X.A.units + 64 < cLine) (ha : R3 X a ta) (hb : R3 X b tb) : R3 X (.Compare a [.Eq] [b] pos) (x2 (cEq fun b => b) ta tb) := r3_cmp (op_eqD hu) con_eq ha hb (nomark _)
theorem t3_eq (hu : X.A.units + 64 < cLine) (ha : R3 X a ta) (hb : R3 X b tb) : T3 X (.Compare a [.Eq] [b] pos) (xTest (x2 (cEq fun b => b) ta tb)) := t3_cmp (op_eqD hu) con_eq ha hb (nomark _)
theorem t3_ne (hu : X.A.units + 64 < cLine) (ha : R3 X a ta) (hb : R3 X b tb) : T3 X (.Compare a [.NotEq] [b] pos) (xTest (x2 (cEq fun b => !b) ta tb)) := t3_cmp (op_neD hu) con_ne ha hb (nomark _)
/-- == of two ints, without further ado -/
def cEqI (g : Bool → Bool) : C2 := fun _ x y r Q => asI x fun i => asI y fun j => Q (.d (.bool (g (decide (i = j))))) r
theorem con_eqI : Con2 X rEq (cEqI fun b => b) := fun G Z H ks vs r1 r s x y tx ty Q Q3 st px py hc k => by
  obtain ⟨i, rfl, hc1⟩ := asI_of hc
  obtain ⟨j, rfl, q⟩ := asI_of hc1
  cases px.int
  cases py.int
  refine ⟨rfl, k Z H _ _ r (Gr.refl _ _) st ?_ q⟩
  have e : decide (V.int i = V.int j) = decide (i = j) := by
    rw [dec_int]; exact Bool.beq_eq_decide_eq i j
  show Dq X.K Z _ _
  rw [e]
  exact .bl _
theorem con_neI : Con2 X rNe (cEqI fun b => !b) := fun G Z H ks vs r1 r s x y tx ty Q Q3 st px py hc k => by
  obtain ⟨i, rfl, hc1⟩ := asI_of hc
  obtain ⟨j, rfl, q⟩ := asI_of hc1
  cases px.int
  cases py.int
  refine ⟨rfl, k Z H _ _ r (Gr.refl _ _) st ?_ q⟩
  have e : decide (V.int i = V.int j) = decide (i = j) := by
    rw [dec_int]; exact Bool.beq_eq_decide_eq i j
  show Dq X.K Z _ _
  rw [e]
  exact .bl _
theorem r3_eqI (ha : R3 X a ta) (hb : R3 X b tb) : R3 X (.Compare a [.Eq] [b] pos) (x2 (cEqI fun b => b) ta tb) := r3_cmp op_eq con_eqI ha hb (nomark _)
theorem t3_eqI (ha : R3 X a ta) (hb : R3 X b tb) : T3 X (.Compare a [.Eq] [b] pos) (xTest (x2 (cEqI fun b => b) ta tb)) := t3_cmp op_eq con_eqI ha hb (nomark _)
theorem t3_neI (ha : R3 X a ta) (hb : R3 X b tb) : T3 X (.Compare a [.NotEq] [b] pos) (xTest (x2 (cEqI fun b => !b) ta tb)) := t3_cmp op_ne con_neI ha hb (nomark _)
/-! ### not, and, or; a chain of two comparisons; a if t else b; -a -/
variable {tt uu : TT3} {rest : List Expr}
def xNot (t : TT3) : TT3 := fun r Q => t r fun b r' => Q (!b) r'
theorem t3_not (ha : T3 X a tt) : T3 X (.UnaryOp .Not a pos) (xNot tt) := by
  obtain ⟨te, ea, sa⟩ := ha.ex
  exact ⟨_, pt_not ea, fun G Z H ks vs r s Q Q3 st ht k => sa G Z H ks vs r s _ _ st ht fun Z' H' b r' g st' q => k Z' H' (!b) r' g st' q⟩
def xAnd (t u : TT3) : TT3 := fun r Q => t r fun b r' => (b = true → u r' Q) ∧ (b = false → Q false r')
def xOr (t u : TT3) : TT3 := fun r Q => t r fun b r' => (b = true → Q true r') ∧ (b = false → u r' Q)
theorem w3_and1 (ha : T3 X a tt) : W3 X (.BoolOp .And [a] pos) tt := by
  obtain ⟨te, ea, sa⟩ := ha.ex
  exact ⟨_, pw_and1 ea, sa⟩
theorem w3_or1 (ha : T3 X a tt) : W3 X (.BoolOp .Or [a] pos) tt := by
  obtain ⟨te, ea, sa⟩ := ha.ex
  exact ⟨_, pw_or1 ea, sa⟩
theorem w3_and (ha : T3 X a tt) (hb : W3 X (.BoolOp .And (b :: rest) pos) uu) : W3 X (.BoolOp .And (a :: b :: rest) pos) (xAnd tt uu) := by
  obtain ⟨tea, ea, sa⟩ := ha.ex
  obtain ⟨teb, eb, sb⟩ := hb.ex
  refine ⟨_, pw_and ea eb, fun G Z H ks vs r s Q Q3 st ht k => sa G Z H ks vs r s _ _ st ht fun Z' H' c r' g st' q => ?_⟩
  cases c with
  | true => exact sb G Z' H' ks vs r' s Q Q3 st' (q.1 rfl) fun Z2 H2 d r2 g2 => k Z2 H2 d r2 (g.trans g2)
  | false => exact k Z' H' false r' g st' (q.2 rfl)
theorem w3_or (ha : T3 X a tt) (hb : W3 X (.BoolOp .Or (b :: rest) pos) uu) : W3 X (.BoolOp .Or (a :: b :: rest) pos) (xOr tt uu) := by
  obtain ⟨tea, ea, sa⟩ := ha.ex
  obtain ⟨teb, eb, sb⟩ := hb.ex
  refine ⟨_, pw_or ea eb, fun G Z H ks vs r s Q Q3 st ht k => sa G Z H ks vs r s _ _ st ht fun Z' H' c r' g st' q => ?_⟩
  cases c with
  | false => exact sb G Z' H' ks vs r' s Q Q3 st' (q.2 rfl) fun Z2 H2 d r2 g2 => k Z2 H2 d r2 (g.trans g2)
  | true => exact k Z' H' true r' g st' (q.1 rfl)
theorem t3_w (ha : W3 X a tt) : T3 X a tt := by
  obtain ⟨te, ea, sa⟩ := ha.ex
  exact ⟨_, ea.pt, sa⟩
/-- .. as values: truths -/
def xAndV (t u : TE3) : TE3 := fun r Q => t r fun x r' => asB x fun b => (b = true → u r' Q) ∧ (b = false → Q (.d (.bool false)) r')
theorem r3_one {op : BoolOp} (ha : R3 X a ta) : R3 X (.BoolOp op [a] pos) ta := by
  obtain ⟨te, ea, sa⟩ := ha.ex
  exact ⟨_, pe_one ea, sa⟩
theorem r3_and (ha : R3 X a ta) (hb : R3 X (.BoolOp .And (b :: rest) pos) tb) : R3 X (.BoolOp .And (a :: b :: rest) pos) (xAndV ta tb) := by
  obtain ⟨tea, ea, sa⟩ := ha.ex
  obtain ⟨teb, eb, sb⟩ := hb.ex
  refine ⟨_, pe_and ea eb, fun G Z H ks vs r s Q Q3 st ht k => sa G Z H ks vs r s _ _ st ht fun Z' H' x v r' g st' pv q => ?_⟩
  obtain ⟨c, rfl, q⟩ := asB_of q
  refine ⟨c, pv.bool, ?_⟩
  cases c with
  | true => exact sb G Z' H' ks vs r' s Q Q3 st' (q.1 rfl) fun Z2 H2 d v2 r2 g2 => k Z2 H2 d v2 r2 (g.trans g2)
  | false => exact k Z' H' (.d (.bool false)) _ r' g st' (Dq.bl _) (q.2 rfl)
def xNeg (t : TE3) : TE3 := fun r Q => t r fun x r' => asI x fun i => Q (.d (.int (-i))) r'
theorem r3_neg (ha : R3 X a ta) : R3 X (.UnaryOp .USub a pos) (xNeg ta) := by
  obtain ⟨te, ea, sa⟩ := ha.ex
  refine ⟨_, pe_un un_neg ea, fun G Z H ks vs r s Q Q3 st ht k => sa G Z H ks vs r s _ _ st ht fun Z' H' x v r' g st' pv q => ?_⟩
  obtain ⟨c, rfl, q⟩ := asI_of q
  exact ⟨c, pv.int, k Z' H' (.d (.int (-c))) _ r' g st' (Dq.int _) q⟩
end
end L3
namespace L3
open PySem PySem.Spec PyProof.Rows L2
/-! ### places -/
def getI {α : Type} (l : List α) (i : Int) : Option α := if 0 ≤ i then l[i.toNat]? else if -(l.length : Int) ≤ i then l[(i + l.length).toNat]? else none
theorem atI_eq {α : Type} (l : List α) (i : Int) : atI l i = getI l i := by
  unfold atI ixN getI
  by_cases h0 : 0 ≤ i
  · rw [if_pos h0, if_pos h0]
    by_cases h1 : i < (l.length : Int)
    · rw [if_pos h1]; rfl
    · rw [if_neg h1, List.getElem?_eq_none (by omega)]; rfl
  · rw [if_neg h0, if_neg h0]
    by_cases h1 : -(l.length : Int) ≤ i
    · rw [if_pos h1, if_pos h1]; rfl
    · rw [if_neg h1, if_neg h1]; rfl
theorem getI_nat {α : Type} (l : List α) (j : Nat) : getI l (j : Int) = l[j]? := by
  unfold getI
  rw [if_pos (by omega)]
  rfl
theorem getI_map {α β : Type} (f : α → β) (l : List α) (i : Int) : getI (l.map f) i = (getI l i).map f := by
  unfold getI
  rw [List.length_map]
  split
  · rw [List.getElem?_map]
  · split
    · rw [List.getElem?_map]
    · rfl
theorem getI_set {α : Type} (l : List α) (i : Int) : ∀ x, getI l i = some x → ∃ j, ixN l.length i = some j ∧ l[j]? = some x := by
  intro x h
  have h' : atI l i = some x := by rw [atI_eq]; exact h
  unfold atI at h'
  cases e : ixN l.length i with
  | none => rw [e] at h'; cases h'
  | some j => rw [e] at h'; exact ⟨j, rfl, h'⟩
section
variable {K : PySem.W.Frag} {Z H : Hp}
theorem rts_len : ∀ {l : List T} {vs : List V}, RTs K Z H l vs → l.length = vs.length
  | _, _, .nil => rfl
  | _, _, .cons _ q => by simp [rts_len q]
theorem rts_get : ∀ {l : List T} {vs : List V} {i : Nat} {t : T}, RTs K Z H l vs → l[i]? = some t → ∃ v, vs[i]? = some v ∧ RT K Z H t v
  | _, _, i, _, .nil, h => by simp at h
  | _, _, 0, t, .cons q _, h => by
    simp at h; subst h; exact ⟨_, rfl, q⟩
  | _, _, i + 1, t, .cons _ q, h => by
    obtain ⟨v, e, r⟩ := rts_get (i := i) (t := t) q (by simpa using h)
    exact ⟨v, by simpa using e, r⟩
theorem rts_at {l : List T} {vs : List V} {i : Int} {t : T} (q : RTs K Z H l vs) (h : getI l i = some t) : ∃ v, atI vs i = some v ∧ RT K Z H t v := by
  obtain ⟨j, e, g⟩ := getI_set l i t h
  obtain ⟨v, e2, r⟩ := rts_get q g
  refine ⟨v, ?_, r⟩
  unfold atI
  rw [← rts_len q, e]
  exact e2
theorem dpa_len : ∀ {l : List PyData} {vs : List V}, DqAll K Z vs l → l.length = vs.length
  | _, _, .nil => rfl
  | _, _, .cons _ q => by simp [dpa_len q]
theorem dpa_get : ∀ {l : List PyData} {vs : List V} {i : Nat} {t : PyData}, DqAll K Z vs l → l[i]? = some t → ∃ v, vs[i]? = some v ∧ Dq K Z v t
  | _, _, i, _, .nil, h => by simp at h
  | _, _, 0, t, .cons q _, h => by
    simp at h; subst h; exact ⟨_, rfl, q⟩
  | _, _, i + 1, t, .cons _ q, h => by
    obtain ⟨v, e, r⟩ := dpa_get (i := i) (t := t) q (by simpa using h)
    exact ⟨v, by simpa using e, r⟩
theorem dpa_at {l : List PyData} {vs : List V} {i : Int} {t : PyData} (q : DqAll K Z vs l) (h : getI l i = some t) : ∃ v, atI vs i = some v ∧ Dq K Z v t := by
  obtain ⟨j, e, g⟩ := getI_set l i t h
  obtain ⟨v, e2, r⟩ := dpa_get q g
  refine ⟨v, ?_, r⟩
  unfold atI
  rw [← dpa_len q, e]
  exact e2
theorem dpa_drop : ∀ {l : List PyData} {vs : List V} (n : Nat), DqAll K Z vs l → DqAll K Z (vs.drop n) (l.drop n)
  | _, _, 0, q => q
  | _, _, n + 1, .nil => .nil
  | _, _, n + 1, .cons _ q => dpa_drop n q
theorem dpa_take : ∀ {l : List PyData} {vs : List V} (n : Nat), DqAll K Z vs l → DqAll K Z (vs.take n) (l.take n)
  | _, _, 0, q => .nil
  | _, _, n + 1, .nil => .nil
  | _, _, n + 1, .cons h q => .cons h (dpa_take n q)
theorem dpa_app : ∀ {l m : List PyData} {vs ws : List V}, DqAll K Z vs l → DqAll K Z ws m → DqAll K Z (vs ++ ws) (l ++ m)
  | _, _, _, _, .nil, q => q
  | _, _, _, _, .cons h k, q => .cons h (dpa_app k q)
theorem dqa_ints : ∀ (ns : List Int), DqAll K Z (ns.map V.int) (ns.map PyData.int)
  | [] => .nil
  | n :: ns => .cons (.int n) (dqa_ints ns)
theorem rts_app : ∀ {l m : List T} {vs ws : List V}, RTs K Z H l vs → RTs K Z H m ws → RTs K Z H (l ++ m) (vs ++ ws)
  | _, _, _, _, .nil, q => q
  | _, _, _, _, .cons h k, q => .cons h (rts_app k q)
end
/-- all items data -/
def alld : List T → Bool
  | [] => true
  | .d _ :: l => alld l
  | _ :: _ => false
theorem alld_eq : ∀ {l : List T}, alld l = true → l = (fzs l).map T.d
  | [], _ => rfl
  | .d x :: l, h => by simp only [fzs, fz, List.map_cons, ← alld_eq (l := l) h]
  | .v _ :: _, h => by simp [alld] at h
  | .sc _ _ :: _, h => by simp [alld] at h
  | .own _ _ :: _, h => by simp [alld] at h
  | .tp _ :: _, h => by simp [alld] at h
theorem fzs_d : ∀ (l : List PyData), fzs (l.map T.d) = l
  | [] => rfl
  | x :: l => by simp only [List.map_cons, fzs, fz, fzs_d l]
theorem alld_d : ∀ (l : List PyData), alld (l.map T.d) = true
  | [] => rfl
  | x :: l => by simp only [List.map_cons, alld, alld_d l]
theorem fzs_map {α : Type} (f : α → PyData) (l : List α) : fzs (l.map fun x => T.d (f x)) = l.map f := by
  have := fzs_d (l.map f)
  rw [List.map_map] at this
  exact this
theorem alld_map {α : Type} (f : α → PyData) (l : List α) : alld (l.map fun x => T.d (f x)) = true := by
  have := alld_d (l.map f)
  rw [List.map_map] at this
  exact this
theorem nvs_d : ∀ (l : List PyData), nvs (l.map T.d) = true
  | [] => rfl
  | x :: l => by simp only [List.map_cons, nvs, nv, nvs_d l, Bool.and_self]
theorem nvs_map {α : Type} (f : α → PyData) (l : List α) : nvs (l.map fun x => T.d (f x)) = true := by
  have := nvs_d (l.map f)
  rw [List.map_map] at this
  exact this
theorem cts_d (a : Addr) : ∀ (l : List PyData), cts a (l.map T.d) = 0
  | [] => rfl
  | x :: l => by simp only [List.map_cons, cts, ct, cts_d a l]
theorem rts_of_dpa {K : PySem.W.Frag} {Z H : Hp} : ∀ {l : List PyData} {vs : List V}, DqAll K Z vs l → RTs K Z H (l.map T.d) vs
  | _, _, .nil => .nil
  | _, _, .cons h q => .cons (.d h) (rts_of_dpa q)
theorem dpa_of_rts {K : PySem.W.Frag} {Z H : Hp} : ∀ {l : List PyData} {vs : List V}, RTs K Z H (l.map T.d) vs → DqAll K Z vs l
  | [], _, .nil => .nil
  | _ :: _, _, .cons h q => by
    cases h with
    | d h => exact .cons h (dpa_of_rts q)
section
variable {X : Cx} {e a b c : Expr} {t ta tb tc : TE3} {pos : Pos}
/-! ### a[i] -/
def cItem (t : T) (r : Rho) (Q : T → Rho → Prop) : Prop := match t with | .d z => Q (.d z) r | .own b m => Q (.own b m) r | .sc b ns => Q (.sc b ns) r | _ => False
def cIx : C2 := fun r1 x y r Q => asI y fun i => match x with
  | .d (.list l) => ∃ z, getI l i = some z ∧ Q (.d z) r
  | .d (.tuple l) => ∃ z, getI l i = some z ∧ Q (.d z) r
  | .d (.str z) => z.length ≤ sizeLine ∧ ∃ c, getI z.cps.toList i = some c ∧ Q (.d (.str ⟨#[c]⟩)) r
  | .sc _ ns => ∃ z, getI ns i = some z ∧ Q (.d (.int z)) r
  | .own _ l => r = r1 ∧ ∃ t, getI l i = some t ∧ cItem t r Q
  | .tp l => r = r1 ∧ ∃ t, getI l i = some t ∧ cItem t r Q
  | _ => False
theorem con_ix : Con2 X (rIx X.K) cIx := fun G Z H ks vs r1 r s x y tx ty Q Q3 st px py hc0 k => by
  obtain ⟨i, rfl, hc⟩ := asI_of hc0
  clear hc0
  cases py.int
  have seqD : ∀ {l : List PyData} {z : PyData} {xs : List V}, DqAll X.K Z xs l → getI l i = some z → Q3 (.d z) r → ∃ v, atI xs i = some v ∧ Q v H := fun {l z xs} hd hg q => by
    obtain ⟨v, e, dz⟩ := dpa_at hd hg
    exact ⟨v, e, k Z H (.d z) v r (Gr.refl _ _) st dz q⟩
  cases tx with
  | v x => exact hc.elim
  | sc a ns =>
    obtain ⟨rfl, hs⟩ := px.scr a ns rfl
    obtain ⟨z, hg, hc⟩ := hc
    exact .inl ⟨_, _, i, .int z, rfl, rfl, st.zh.L hs, by rw [atI_eq, getI_map, hg]; rfl, k Z H (.d (.int z)) _ r (Gr.refl _ _) st (Dq.int _) hc⟩
  | d d =>
    have dx := px.dat d rfl
    cases dx with
    | lst hs ha =>
      obtain ⟨z, hg, hc⟩ := hc
      obtain ⟨v, e, q⟩ := seqD ha hg hc
      exact .inl ⟨_, _, i, v, rfl, rfl, SqL.of (st.zh _ _ hs), e, q⟩
    | tup hs ha =>
      obtain ⟨z, hg, hc⟩ := hc
      obtain ⟨v, e, q⟩ := seqD ha hg hc
      exact .inr (.inl ⟨_, _, i, v, rfl, rfl, SqT.of (st.zh _ _ hs), e, q⟩)
    | str z =>
      obtain ⟨hz, c, hg, hc⟩ := hc
      exact .inr (.inr ⟨z, i, c, rfl, rfl, hz, by rw [atI_eq]; exact hg, k Z H (.d (.str ⟨#[c]⟩)) _ r (Gr.refl _ _) st (Dq.str _) hc⟩)
    | exc _ _ => exact hc.elim
    | non => exact hc.elim
    | bl _ => exact hc.elim
    | int _ => exact hc.elim
  | own a0 l =>
    obtain ⟨e1, t, hg, hc⟩ := hc
    have pp := px.same e1
    have rt := pp.now st
    cases rt with
    | own h1 h2 =>
      obtain ⟨v, e, rz⟩ := rts_at h2 hg
      unfold cItem at hc
      split at hc
      · rename_i z
        cases rz with
        | d dz => exact .inl ⟨_, _, i, v, rfl, rfl, SqL.of h1, e, k Z H (.d z) v r (Gr.refl _ _) st dz hc⟩
      · rename_i b m
        cases rz with
        | own g1 g2 =>
          refine .inl ⟨_, _, i, _, rfl, rfl, SqL.of h1, e, k Z H (.own b m) _ r (Gr.refl _ _) st ?_ hc⟩
          intro G2 Z2 H2 ks2 vs2 sub st2
          have rt2 := pp G2 Z2 H2 ks2 vs2 sub st2
          cases rt2 with
          | own k1 k2 =>
            obtain ⟨v2, _, rz2⟩ := rts_at k2 hg
            cases rz2 with
            | own m1 m2 => exact .own m1 m2
      · cases rz with
        | sc hs => exact .inl ⟨_, _, i, _, rfl, rfl, SqL.of h1, e, k Z H (.sc _ _) _ r (Gr.refl _ _) st ⟨rfl, hs⟩ hc⟩
      · exact hc.elim
  | tp l =>
    obtain ⟨e1, t, hg, hc⟩ := hc
    have pp := px.same e1
    have rt := pp.now st
    cases rt with
    | tp h1 h2 =>
      obtain ⟨v, e, rz⟩ := rts_at h2 hg
      unfold cItem at hc
      split at hc
      · rename_i z
        cases rz with
        | d dz => exact .inr (.inl ⟨_, _, i, v, rfl, rfl, SqT.of (st.zh _ _ h1), e, k Z H (.d z) v r (Gr.refl _ _) st dz hc⟩)
      · rename_i b m
        cases rz with
        | own g1 g2 =>
          refine .inr (.inl ⟨_, _, i, _, rfl, rfl, SqT.of (st.zh _ _ h1), e, k Z H (.own b m) _ r (Gr.refl _ _) st ?_ hc⟩)
          intro G2 Z2 H2 ks2 vs2 sub st2
          have rt2 := pp G2 Z2 H2 ks2 vs2 sub st2
          cases rt2 with
          | tp k1 k2 =>
            obtain ⟨v2, _, rz2⟩ := rts_at k2 hg
            cases rz2 with
            | own m1 m2 => exact .own m1 m2
      · cases rz with
        | sc hs => exact .inr (.inl ⟨_, _, i, _, rfl, rfl, SqT.of (st.zh _ _ h1), e, k Z H (.sc _ _) _ r (Gr.refl _ _) st ⟨rfl, hs⟩ hc⟩)
      · exact hc.elim
theorem r3_ix (ha : R3 X a ta) (hb : R3 X b tb) (hs : PlainIx b := by intro _ _; rfl) : R3 X (.Subscript a b pos) (x2 cIx ta tb) := by
  obtain ⟨tea, ea, sa⟩ := ha.ex
  obtain ⟨teb, eb, sb⟩ := hb.ex
  exact ⟨_, pe_ix ix_seq ea eb hs, two_run con_ix sa sb⟩
/-! ### a[lo:hi] -/
def cutL {α : Type} (xs : List α) (lo hi : Option Int) : List α := (xs.drop (HT.sIx xs.length 0 lo)).take (HT.sIx xs.length xs.length hi - HT.sIx xs.length 0 lo)
theorem cutL_map {α β : Type} (f : α → β) (xs : List α) (lo hi : Option Int) : cutL (xs.map f) lo hi = (cutL xs lo hi).map f := by
  unfold cutL
  rw [List.length_map, List.map_take, List.map_drop]
abbrev TO3 := Rho → (Option Int → Rho → Prop) → Prop
structure PO3 (X : Cx) (e : Option Expr) (t : TO3) : Prop where
  ex : ∃ te : TO, PO X e te ∧ ∀ (G Z H : Hp) (ks : List T) (vs : List V) (r : Rho) (s : L2.St) (Q : Option Int → Hp → Prop) (Q3 : Option Int → Rho → Prop), S3 X.K G Z H ks vs r s → t r Q3 →
    (∀ Z' H' x r', Gr G Z Z' → S3 X.K G Z' H' ks vs r' s → Q3 x r' → Q x H') → te s H Q
def xNo : TO3 := fun r Q => Q none r
def xSome (t : TE3) : TO3 := fun r Q => t r fun x r' => asI x fun i => Q (some i) r'
theorem po3_none : PO3 X none xNo := ⟨_, po_none, fun G Z H ks vs r s Q Q3 st ht k => k Z H none r (Gr.refl _ _) st ht⟩
theorem po3_some (h : R3 X e t) : PO3 X (some e) (xSome t) := by
  obtain ⟨te, ea, sa⟩ := h.ex
  refine ⟨_, po_some ea, fun G Z H ks vs r s Q Q3 st ht k => sa G Z H ks vs r s _ _ st ht fun Z' H' x v r' g st' pv q => ?_⟩
  obtain ⟨i, rfl, q⟩ := asI_of q
  exact ⟨i, pv.int, k Z' H' (some i) r' g st' q⟩
def xSl (te : TE3) (tl th : TO3) : TE3 := fun r Q => te r fun x r1 => tl r1 fun lo r2 => th r2 fun hi r3 => match x with
  | .d (.list l) => ∀ p, Q (.own p ((cutL l lo hi).map T.d)) r3
  | .sc _ ns => ∀ p, Q (.own p ((cutL ns lo hi).map fun n => T.d (.int n))) r3
  | .own _ l => r3 = r1 ∧ alld l = true ∧ ∀ p, Q (.own p ((cutL (fzs l) lo hi).map T.d)) r3
  | .d (.tuple l) => Q (.d (.tuple (cutL l lo hi))) r3
  | .d (.str z) => z.length ≤ sizeLine ∧ Q (.d (.str (cutS z lo hi))) r3
  | _ => False
theorem p3_sl {lo hi : Option Expr} {tl th : TO3} {p2 : Pos} (ha : R3 X a ta) (hl : PO3 X lo tl) (hh : PO3 X hi th) : P3 X (.Subscript a (.Slice lo hi none p2) pos) (xSl ta tl th) := by
  obtain ⟨tea, ea, sa⟩ := ha.ex
  obtain ⟨tel, el, sl⟩ := hl.ex
  obtain ⟨teh, eh, sh⟩ := hh.ex
  refine ⟨_, pe_slice (sl_list.or (sl_tupA.or sl_str)) ea el eh, fun G Z H ks vs r s Q Q3 st ht k => sa G Z H ks vs r s _ _ st ht fun Z1 H1 x v r1 g1 st1 pv q => sl G Z1 H1 ks vs r1 s _ _ st1 q fun Z2 H2 lo r2 g2 st2 q => sh G Z2 H2 ks vs r2 s _ _ st2 q fun Z3 H3 hi r3 g3 st3 q => ?_⟩
  have pp : Pv2 X.K Z3 r1 r3 s x v := pv.two (g2.trans g3).sub
  have gg := (g1.trans g2).trans g3
  have newL : ∀ {xs : List V} {l : List PyData}, DqAll X.K Z3 xs l → (∀ p, Q3 (.own p ((cutL l lo hi).map T.d)) r3) → ∀ p, H3 p = none → Q (.ref p) (upd H3 p (.lst (cutV xs lo hi))) := fun {xs l} hd hq p hp => by
    have hd2 : DqAll X.K Z3 (cutV xs lo hi) (cutL l lo hi) := by
      unfold cutV cutL
      rw [dpa_len hd]
      exact dpa_take _ (dpa_drop _ hd)
    have st4 : S3 X.K G Z3 H3 ((cutL l lo hi).map T.d ++ ks) (cutV xs lo hi ++ vs) r3 s := ⟨st3.zh, st3.gh, fun a => by rw [cts_append, cts_d]; have := st3.one a; omega, fun a c => st3.ow a (by rw [cts_append, cts_d] at c; omega), rts_app (rts_of_dpa hd2) st3.stk, st3.slot, st3.len⟩
    exact k _ _ _ _ r3 gg (st4.mkOwn (by rw [List.length_map]; exact dpa_len hd2) hp) (hq p)
  cases x with
  | v x => exact q.elim
  | tp l => exact q.elim
  | sc a ns =>
    obtain ⟨rfl, hs⟩ := pp.scr a ns rfl
    have q' : ∀ p, Q3 (.own p ((cutL (ns.map PyData.int) lo hi).map T.d)) r3 := fun p => by
      rw [cutL_map, List.map_map]
      exact q p
    exact .inl ⟨_, _, rfl, st3.zh.L hs, newL (dqa_ints ns) q'⟩
  | own a0 l =>
    obtain ⟨e1, al, q⟩ := q
    have rt := (pp.same e1).now st3
    cases rt with
    | own h1 h2 =>
      rw [alld_eq al] at h2
      exact .inl ⟨_, _, rfl, SqL.of h1, newL (dpa_of_rts h2) q⟩
  | d d =>
    have dx := pp.dat d rfl
    cases dx with
    | lst hs ha => exact .inl ⟨_, _, rfl, SqL.of (st3.zh _ _ hs), newL ha q⟩
    | @tup a0 xs l hs ha =>
      have hd2 : DqAll X.K Z3 (cutV xs lo hi) (cutL l lo hi) := by
        unfold cutV cutL
        rw [dpa_len ha]
        exact dpa_take _ (dpa_drop _ ha)
      refine .inr (.inl ⟨a0, xs, rfl, SqT.of (st3.zh _ _ hs), fun w => ?_, fun w p hp => ?_⟩)
      · have e2 : cutL l lo hi = l := by
          unfold cutL
          rw [dpa_len ha, w.1, w.2, List.drop_zero, Nat.sub_zero, ← dpa_len ha, List.take_length]
        simp only [e2] at q
        exact k Z3 H3 _ _ r3 gg (st3.pushD (.tup hs ha)) q
      · obtain ⟨g4, st4⟩ := st3.laidG (o := .tup (cutV xs lo hi)) hp
        exact k _ _ _ _ r3 (gg.trans g4) (st4.pushD (.tup upd_same (dpa_mono g4.sub _ _ hd2))) q
    | str z => exact .inr (.inr ⟨z, rfl, q.1, k Z3 H3 (.d (.str _)) _ r3 gg (st3.pushD (.str _)) q.2⟩)
    | exc _ _ => exact q.elim
    | non => exact q.elim
    | bl _ => exact q.elim
    | int _ => exact q.elim
/-! ### displays -/
abbrev TA3 := Rho → (List T → Rho → Prop) → Prop
structure PA3 (X : Cx) (es : List Expr) (t : TA3) : Prop where
  ex : ∃ te : TA, PA X es te ∧ ∀ (G Z H : Hp) (ks : List T) (vs : List V) (r : Rho) (s : L2.St) (Q : List V → Hp → Prop) (Q3 : List T → Rho → Prop), S3 X.K G Z H ks vs r s → t r Q3 →
    (∀ Z' H' xs us r', Gr G Z Z' → xs.length = us.length → S3 X.K G Z' H' (xs ++ ks) (us ++ vs) r' s → Q3 xs r' → Q us H') → te s H Q
theorem S3.mid {K : PySem.W.Frag} {G Z H : Hp} {r : Rho} {s : L2.St} {t : T} {v : V} {ks : List T} {vs : List V} : ∀ {l : List T} {xs : List V}, l.length = xs.length → S3 K G Z H (l ++ t :: ks) (xs ++ v :: vs) r s → S3 K G Z H (t :: (l ++ ks)) (v :: (xs ++ vs)) r s := by
  intro l xs hl h
  have hm : ∀ (l : List T) (xs : List V), l.length = xs.length → RTs K Z H (l ++ t :: ks) (xs ++ v :: vs) → RTs K Z H (t :: (l ++ ks)) (v :: (xs ++ vs)) := by
    intro l
    induction l with
    | nil => intro xs hl q; cases xs with | nil => exact q | cons _ _ => simp at hl
    | cons y l ih =>
      intro xs hl q
      cases xs with
      | nil => simp at hl
      | cons x xs =>
        cases q with
        | cons q1 q2 =>
          have := ih xs (by simpa using hl) q2
          cases this with
          | cons z1 z2 => exact .cons z1 (.cons q1 z2)
  have hc : ∀ a, cts a (l ++ t :: ks) = cts a (t :: (l ++ ks)) := fun a => by
    rw [cts_append]
    simp only [cts]
    rw [cts_append]
    omega
  exact ⟨h.zh, h.gh, fun a => by rw [← hc a]; exact h.one a, fun a c => h.ow a (by rw [hc a]; exact c), hm l xs hl h.stk, h.slot, h.len⟩
theorem S3.mid' {K : PySem.W.Frag} {G Z H : Hp} {r : Rho} {s : L2.St} {t : T} {v : V} {ks : List T} {vs : List V} : ∀ {l : List T} {xs : List V}, l.length = xs.length → S3 K G Z H (t :: (l ++ ks)) (v :: (xs ++ vs)) r s → S3 K G Z H (l ++ t :: ks) (xs ++ v :: vs) r s := by
  intro l xs hl h
  have hm : ∀ (l : List T) (xs : List V), l.length = xs.length → RTs K Z H (t :: (l ++ ks)) (v :: (xs ++ vs)) → RTs K Z H (l ++ t :: ks) (xs ++ v :: vs) := by
    intro l
    induction l with
    | nil => intro xs hl q; cases xs with | nil => exact q | cons _ _ => simp at hl
    | cons y l ih =>
      intro xs hl q
      cases xs with
      | nil => simp at hl
      | cons x xs =>
        cases q with
        | cons q1 q2 =>
          cases q2 with
          | cons q3 q4 => exact .cons q3 (ih xs (by simpa using hl) (.cons q1 q4))
  have hc : ∀ a, cts a (l ++ t :: ks) = cts a (t :: (l ++ ks)) := fun a => by
    rw [cts_append]
    simp only [cts]
    rw [cts_append]
    omega
  exact ⟨h.zh, h.gh, fun a => by rw [hc a]; exact h.one a, fun a c => h.ow a (by rw [← hc a]; exact c), hm l xs hl h.stk, h.slot, h.len⟩
def xNil : TA3 := fun r Q => Q [] r
def xCons (t : TE3) (u : TA3) : TA3 := fun r Q => t r fun x r1 => u r1 fun xs r2 => Q (x :: xs) r2
theorem pa3_nil : PA3 X [] xNil := ⟨_, pa_nil, fun G Z H ks vs r s Q Q3 st ht k => k Z H [] [] r (Gr.refl _ _) rfl st ht⟩
theorem pa3_cons {es : List Expr} {u : TA3} (ha : P3 X e t) (hr : PA3 X es u) (hs : starEach (e :: es) X.env = (false, eval e X.env) :: starEach es X.env := by rfl) : PA3 X (e :: es) (xCons t u) := by
  obtain ⟨tea, ea, sa⟩ := ha.ex
  obtain ⟨ter, er, sr⟩ := hr.ex
  refine ⟨_, pa_cons ea er hs, fun G Z H ks vs r s Q Q3 st ht k => sa G Z H ks vs r s _ _ st ht fun Z1 H1 x v r1 g1 st1 q1 => sr G Z1 H1 (x :: ks) (v :: vs) r1 s _ _ st1 q1 fun Z2 H2 xs us r2 g2 hl st2 q2 => ?_⟩
  exact k Z2 H2 (x :: xs) (v :: us) r2 (g1.trans g2) (by simp [hl]) (st2.mid hl) q2
def xLst (t : TA3) : TE3 := fun r Q => t r fun xs r' => xs.length ≤ sizeLine ∧ ∀ p, Q (.own p xs) r'
theorem p3_lst {es : List Expr} {u : TA3} (h : PA3 X es u) : P3 X (.List es pos) (xLst u) := by
  obtain ⟨te, ea, sa⟩ := h.ex
  refine ⟨_, pe_lst ea, fun G Z H ks vs r s Q Q3 st ht k => sa G Z H ks vs r s _ _ st ht fun Z1 H1 xs us r1 g1 hl st1 q => ⟨by rw [← hl]; exact q.1, fun p hp => ?_⟩⟩
  exact k _ _ _ _ r1 g1 (st1.mkOwn hl hp) (q.2 p)
/-- a tuple of what was told: data, where all of it is -/
def mkTup (l : List T) : T := if alld l = true then .d (.tuple (fzs l)) else .tp l
theorem S3.mkTup {K : PySem.W.Frag} {G Z H : Hp} {ks : List T} {vs : List V} {r : Rho} {s : L2.St} {l : List T} {xs : List V} {p : Addr} (h : S3 K G Z H (l ++ ks) (xs ++ vs) r s) (hl : l.length = xs.length) (hp : H p = none) :
    Gr G Z (upd Z p (.tup xs)) ∧ S3 K G (upd Z p (.tup xs)) (upd H p (.tup xs)) (mkTup l :: ks) (.ref p :: vs) r s := by
  obtain ⟨g, h1⟩ := h.laidG (o := .tup xs) hp
  refine ⟨g, ?_⟩
  have splt : ∀ (l : List T) (xs : List V), l.length = xs.length → ∀ (Z H : Hp), RTs K Z H (l ++ ks) (xs ++ vs) → RTs K Z H l xs ∧ RTs K Z H ks vs := by
    intro l
    induction l with
    | nil => intro xs hl Z H q; cases xs with | nil => exact ⟨.nil, q⟩ | cons _ _ => simp at hl
    | cons t l ih =>
      intro xs hl Z H q
      cases xs with
      | nil => simp at hl
      | cons x xs =>
        cases q with
        | cons q1 q2 =>
          obtain ⟨z1, z2⟩ := ih xs (by simpa using hl) Z H q2
          exact ⟨.cons q1 z1, z2⟩
  obtain ⟨q1, q2⟩ := splt l xs hl _ _ h1.stk
  have tsq : (upd Z p (.tup xs)) p = some (.tup xs) := upd_same
  unfold L3.mkTup
  split
  · rename_i al
    rw [alld_eq al] at q1
    refine ⟨h1.zh, h1.gh, fun a => ?_, fun a c => h1.ow a ?_, .cons (.d (.tup tsq (dpa_of_rts q1))) q2, h1.slot, h1.len⟩
    · have := h1.one a
      rw [cts_append] at this
      simp only [cts, ct]
      omega
    · rw [cts_append]
      simp only [cts, ct] at c
      omega
  · refine ⟨h1.zh, h1.gh, fun a => ?_, fun a c => h1.ow a ?_, .cons (.tp tsq q1) q2, h1.slot, h1.len⟩
    · have := h1.one a
      rw [cts_append] at this
      simp only [cts, ct]
      omega
    · rw [cts_append]
      simp only [cts, ct] at c
      omega
def xTup (t : TA3) : TE3 := fun r Q => t r fun xs r' => xs.length ≤ sizeLine ∧ Q (mkTup xs) r'
theorem p3_tup {es : List Expr} {u : TA3} {x1} (h : PA3 X es u) : P3 X (.Tuple es x1 pos) (xTup u) := by
  obtain ⟨te, ea, sa⟩ := h.ex
  refine ⟨_, pe_tup ea, fun G Z H ks vs r s Q Q3 st ht k => sa G Z H ks vs r s _ _ st ht fun Z1 H1 xs us r1 g1 hl st1 q => ⟨by rw [← hl]; exact q.1, fun p hp => ?_⟩⟩
  obtain ⟨g2, st2⟩ := st1.mkTup hl hp
  exact k _ _ _ _ r1 (g1.trans g2) st2 q.2
end
end L3
namespace L3
open PySem PySem.Spec PyProof.Rows L2
section
variable {K : PySem.W.Frag} {G Z H : Hp} {ks : List T} {vs : List V} {r : Rho} {s : L2.St}
/-- a new list of data -/
theorem S3.newD {l : List PyData} {xs : List V} {p : Addr} (h : S3 K G Z H ks vs r s) (hd : DqAll K Z xs l) (hp : H p = none) : S3 K G Z (upd H p (.lst xs)) (.own p (l.map T.d) :: ks) (.ref p :: vs) r s := by
  have st4 : S3 K G Z H (l.map T.d ++ ks) (xs ++ vs) r s := ⟨h.zh, h.gh, fun a => by rw [cts_append, cts_d]; have := h.one a; omega, fun a c => h.ow a (by rw [cts_append, cts_d] at c; omega), rts_app (rts_of_dpa hd) h.stk, h.slot, h.len⟩
  exact st4.mkOwn (by rw [List.length_map]; exact dpa_len hd) hp
theorem dqa_inv : ∀ {ns : List Int} {xs : List V}, DqAll K Z xs (ns.map PyData.int) → xs = ns.map V.int
  | [], _, .nil => rfl
  | n :: ns, _, .cons h q => by
    cases h
    rw [dqa_inv q]
    rfl
end
def allI : List PyData → Bool
  | [] => true
  | .int _ :: l => allI l
  | _ :: _ => false
def intL : List PyData → List Int
  | [] => []
  | .int i :: l => i :: intL l
  | _ :: l => intL l
theorem allI_eq : ∀ {l : List PyData}, allI l = true → l = (intL l).map PyData.int
  | [], _ => rfl
  | .int i :: l, h => by simp only [intL, List.map_cons, ← allI_eq (l := l) h]
  | .none :: _, h => by simp [allI] at h
  | .bool _ :: _, h => by simp [allI] at h
  | .str _ :: _, h => by simp [allI] at h
  | .list _ :: _, h => by simp [allI] at h
  | .tuple _ :: _, h => by simp [allI] at h
  | .dict _ :: _, h => by simp [allI] at h
theorem allI_map : ∀ (ns : List Int), allI (ns.map PyData.int) = true
  | [] => rfl
  | n :: ns => by simp only [List.map_cons, allI, allI_map ns]
def maxL : List Int → Int
  | [] => 0
  | x :: l => l.foldl max x
section
variable {X : Cx} {e a b c : Expr} {t ta tb tc : TE3} {pos : Pos}
/-! ### a + b of any kind -/
def cAdd : C2 := fun r1 x y r Q => match x, y with
  | .d (.int i), .d (.int j) => Q (.d (.int (i + j))) r
  | .d (.str i), .d (.str j) => i.length + j.length ≤ sizeLine ∧ Q (.d (.str (i ++ j))) r
  | .d (.tuple l), .d (.tuple m) => l.length + m.length ≤ sizeLine ∧ Q (.d (.tuple (l ++ m))) r
  | .own _ l, .own _ m => r = r1 ∧ alld l = true ∧ alld m = true ∧ l.length + m.length ≤ sizeLine ∧ ∀ p, Q (.own p (l ++ m)) r
  | .own _ l, .d (.list m) => r = r1 ∧ alld l = true ∧ l.length + m.length ≤ sizeLine ∧ ∀ p, Q (.own p (l ++ m.map T.d)) r
  | .d (.list l), .own _ m => alld m = true ∧ l.length + m.length ≤ sizeLine ∧ ∀ p, Q (.own p (l.map T.d ++ m)) r
  | .d (.list l), .d (.list m) => l.length + m.length ≤ sizeLine ∧ ∀ p, Q (.own p (l.map T.d ++ m.map T.d)) r
  | _, _ => False
/-- a list's items as data -/
theorem own_data {K : PySem.W.Frag} {Z H : Hp} {p : Addr} {l : List T} {v : V} (h : RT K Z H (.own p l) v) (al : alld l = true) : ∃ xs, v = .ref p ∧ H p = some (.lst xs) ∧ DqAll K Z xs (fzs l) ∧ xs.length = l.length := by
  cases h with
  | own h1 h2 =>
    have e := rts_len h2
    rw [alld_eq al] at h2
    exact ⟨_, rfl, h1, dpa_of_rts h2, e.symm⟩
theorem con_add : Con2P X (fun x y H Q => (rI0 fun i j => .int (i + j)) x y H Q ∨ (∃ i j, x = .str i ∧ y = .str j ∧ i.length + j.length ≤ sizeLine ∧ Q (.str (i ++ j)) H) ∨ rCatA X.K x y H Q ∨ rCat x y H Q) cAdd :=
  fun G Z H ks vs r1 r s x y tx ty Q Q3 st px py hc k => by
    have cat : ∀ {a b : Addr} {xs zs : List V} {l m : List PyData}, H a = some (.lst xs) → H b = some (.lst zs) → DqAll X.K Z xs l → DqAll X.K Z zs m → xs.length + zs.length ≤ sizeLine → (∀ p, Q3 (.own p (l.map T.d ++ m.map T.d)) r) → rCat (.ref a) (.ref b) H Q :=
      fun {a b xs zs l m} h1 h2 d1 d2 hz q => ⟨a, b, xs, zs, rfl, rfl, h1, h2, hz, fun p hp => by
        have := st.newD (dpa_app d1 d2) hp
        rw [List.map_append] at this
        exact k Z _ _ _ r (Gr.refl _ _) this (q p)⟩
    unfold cAdd at hc
    split at hc
    · rename_i i j
      cases px.dat _ rfl
      cases py.int
      exact .inl ⟨i, j, rfl, rfl, k Z H (.d (.int (i + j))) _ r (Gr.refl _ _) (st.pushD (.int _)) hc⟩
    · rename_i i j
      cases px.dat _ rfl
      cases py.str
      exact .inr (.inl ⟨i, j, rfl, rfl, hc.1, k Z H (.d (.str _)) _ r (Gr.refl _ _) (st.pushD (.str _)) hc.2⟩)
    · rename_i l m
      have dx := px.dat _ rfl
      have dy : Dq X.K Z y (.tuple m) := py
      cases dx with
      | @tup a1 xs _ hx ax =>
        cases dy with
        | @tup a2 ys _ hy ay =>
          refine .inr (.inr (.inl ⟨a1, a2, xs, ys, rfl, rfl, SqT.of (st.zh _ _ hx), SqT.of (st.zh _ _ hy), by rw [← dpa_len ax, ← dpa_len ay]; exact hc.1, fun e => ?_, fun _ e => ?_, fun _ _ p hp => ?_⟩))
          · subst e
            cases ax
            exact k Z H _ _ r (Gr.refl _ _) (st.pushD (.tup hy ay)) hc.2
          · subst e
            cases ay
            refine k Z H _ _ r (Gr.refl _ _) (st.pushD (.tup hx ax)) ?_
            have h2 := hc.2
            rw [List.append_nil] at h2
            exact h2
          · obtain ⟨g4, st4⟩ := st.laidG (o := .tup (xs ++ ys)) hp
            exact k _ _ _ _ r g4 (st4.pushD (.tup upd_same (dpa_mono g4.sub _ _ (dpa_app ax ay)))) hc.2
    · rename_i a1 l a2 m
      obtain ⟨xs, rfl, h1, d1, e1⟩ := own_data ((px.same hc.1).now st) hc.2.1
      obtain ⟨zs, rfl, h2, d2, e2⟩ := own_data (py.now st) hc.2.2.1
      refine .inr (.inr (.inr (cat h1 h2 d1 d2 (by rw [e1, e2]; exact hc.2.2.2.1) ?_)))
      rw [← alld_eq hc.2.1, ← alld_eq hc.2.2.1]
      exact hc.2.2.2.2
    · rename_i a1 l m
      obtain ⟨xs, rfl, h1, d1, e1⟩ := own_data ((px.same hc.1).now st) hc.2.1
      cases (show Dq X.K Z y (.list m) from py) with
      | lst hs ha =>
        refine .inr (.inr (.inr (cat h1 (st.zh _ _ hs) d1 ha (by rw [e1, ← dpa_len ha]; exact hc.2.2.1) ?_)))
        rw [← alld_eq hc.2.1]
        exact hc.2.2.2
    · rename_i l a2 m
      obtain ⟨zs, rfl, h2, d2, e2⟩ := own_data (py.now st) hc.1
      cases px.dat _ rfl with
      | lst hs ha =>
        refine .inr (.inr (.inr (cat (st.zh _ _ hs) h2 ha d2 (by rw [e2, ← dpa_len ha]; exact hc.2.1) ?_)))
        rw [← alld_eq hc.1]
        exact hc.2.2
    · rename_i l m
      cases px.dat _ rfl with
      | lst hs ha =>
        cases (show Dq X.K Z y (.list m) from py) with
        | lst hs2 ha2 => exact .inr (.inr (.inr (cat (st.zh _ _ hs) (st.zh _ _ hs2) ha ha2 (by rw [← dpa_len ha, ← dpa_len ha2]; exact hc.1) hc.2)))
    · exact hc.elim
theorem p3_add (ha : R3 X a ta) (hb : R3 X b tb) : P3 X (.BinOp a .Add b pos) (x2 cAdd ta tb) := p3_op (op_add.or (op_add_str.or (op_catA.or op_cat))) con_add ha hb
/-! ### a * b of any kind -/
/-! ### built-in functions of one and of two arguments -/
abbrev C1 := T → TE3
def x1 (c : C1) (ta : TE3) : TE3 := fun r Q => ta r fun x r1 => c x r1 Q
def Con1 (X : Cx) (rd : List V → Hp → VK → Prop) (c : C1) : Prop := ∀ (G Z H : Hp) (ks : List T) (vs : List V) (r : Rho) (s : L2.St) (x : V) (tx : T) (Q : VK) (Q3 : T → Rho → Prop), S3 X.K G Z H ks vs r s → Pv X.K Z r s tx x → c tx r Q3 →
  (∀ Z' H' t v r', Gr G Z Z' → S3 X.K G Z' H' ks vs r' s → Pv X.K Z' r' s t v → Q3 t r' → Q v H') → rd [x] H Q
def Con1P (X : Cx) (rd : List V → Hp → VK → Prop) (c : C1) : Prop := ∀ (G Z H : Hp) (ks : List T) (vs : List V) (r : Rho) (s : L2.St) (x : V) (tx : T) (Q : VK) (Q3 : T → Rho → Prop), S3 X.K G Z H ks vs r s → Pv X.K Z r s tx x → c tx r Q3 →
  (∀ Z' H' t v r', Gr G Z Z' → S3 X.K G Z' H' (t :: ks) (v :: vs) r' s → Q3 t r' → Q v H') → rd [x] H Q
variable {id : String} {x : Str} {rd : List V → Hp → VK → Prop} {p : Pos}
theorem r3_callB {c : C1} (hc : CallR X (.builtin id) rd) (cn : Con1 X rd c) (hg : Gl X x) (hm : X.mg x = none) (hv : bootBuiltins x = some (.builtin id)) (ha : R3 X a ta) (hn : x ≠ "__name__" := by decide) (hdb : (x == ("__debug__" : Str)) = false := by decide)
    (he : starEach [a] X.env = (false, eval a X.env) :: starEach [] X.env := by rfl) (hpl : (backTo pos (starEach [] X.env)).any (·.1) = false := by rfl) : R3 X (.Call (.Name x p) [a] [] pos) (x1 c ta) := by
  obtain ⟨tea, ea, sa⟩ := ha.ex
  exact ⟨_, pe_callB hc hg hm hv (pa_cons ea pa_nil he) hn hdb he hpl, fun G Z H ks vs r s Q Q3 st ht k => sa G Z H ks vs r s _ _ st ht fun Z1 H1 x v r1 g1 st1 pv q =>
    cn G Z1 H1 ks vs r1 s v x Q Q3 st1 pv q fun Z2 H2 t w r2 g2 => k Z2 H2 t w r2 (g1.trans g2)⟩
theorem r3_callT {c : C1} (hc : CallR X (.type id) rd) (cn : Con1 X rd c) (hg : Gl X x) (hm : X.mg x = none) (hv : bootBuiltins x = some (.type id)) (ha : R3 X a ta) (hn : x ≠ "__name__" := by decide) (hdb : (x == ("__debug__" : Str)) = false := by decide)
    (he : starEach [a] X.env = (false, eval a X.env) :: starEach [] X.env := by rfl) (hpl : (backTo pos (starEach [] X.env)).any (·.1) = false := by rfl) : R3 X (.Call (.Name x p) [a] [] pos) (x1 c ta) := by
  obtain ⟨tea, ea, sa⟩ := ha.ex
  exact ⟨_, pe_callTy hc hg hm hv (pa_cons ea pa_nil he) hn hdb he hpl, fun G Z H ks vs r s Q Q3 st ht k => sa G Z H ks vs r s _ _ st ht fun Z1 H1 x v r1 g1 st1 pv q =>
    cn G Z1 H1 ks vs r1 s v x Q Q3 st1 pv q fun Z2 H2 t w r2 g2 => k Z2 H2 t w r2 (g1.trans g2)⟩
theorem p3_callT {c : C1} (hc : CallR X (.type id) rd) (cn : Con1P X rd c) (hg : Gl X x) (hm : X.mg x = none) (hv : bootBuiltins x = some (.type id)) (ha : R3 X a ta) (hn : x ≠ "__name__" := by decide) (hdb : (x == ("__debug__" : Str)) = false := by decide)
    (he : starEach [a] X.env = (false, eval a X.env) :: starEach [] X.env := by rfl) (hpl : (backTo pos (starEach [] X.env)).any (·.1) = false := by rfl) : P3 X (.Call (.Name x p) [a] [] pos) (x1 c ta) := by
  obtain ⟨tea, ea, sa⟩ := ha.ex
  exact ⟨_, pe_callTy hc hg hm hv (pa_cons ea pa_nil he) hn hdb he hpl, fun G Z H ks vs r s Q Q3 st ht k => sa G Z H ks vs r s _ _ st ht fun Z1 H1 x v r1 g1 st1 pv q =>
    cn G Z1 H1 ks vs r1 s v x Q Q3 st1 pv q fun Z2 H2 t w r2 g2 => k Z2 H2 t w r2 (g1.trans g2)⟩
theorem r3_callB2 {c : C2} (hc : CallR X (.builtin id) rd) (cn : Con2 X (fun x y => rd [x, y]) c) (hg : Gl X x) (hm : X.mg x = none) (hv : bootBuiltins x = some (.builtin id)) (ha : R3 X a ta) (hb : R3 X b tb) (hn : x ≠ "__name__" := by decide) (hdb : (x == ("__debug__" : Str)) = false := by decide)
    (he : starEach [a, b] X.env = (false, eval a X.env) :: starEach [b] X.env := by rfl) (he2 : starEach [b] X.env = (false, eval b X.env) :: starEach [] X.env := by rfl) (hpl : (backTo pos (starEach [b] X.env)).any (·.1) = false := by rfl) : R3 X (.Call (.Name x p) [a, b] [] pos) (x2 c ta tb) := by
  obtain ⟨tea, ea, sa⟩ := ha.ex
  obtain ⟨teb, eb, sb⟩ := hb.ex
  exact ⟨_, pe_callB hc hg hm hv (pa_cons ea (pa_cons eb pa_nil he2) he) hn hdb he hpl, fun G Z H ks vs r s Q Q3 st ht k => two_run cn sa sb G Z H ks vs r s Q Q3 st ht k⟩
/-- len(x) -/
def cLen : C1 := fun x r Q => match x with
  | .d (.list l) => Q (.d (.int l.length)) r
  | .d (.tuple l) => Q (.d (.int l.length)) r
  | .d (.str z) => z.length ≤ sizeLine ∧ Q (.d (.int z.length)) r
  | .sc _ ns => Q (.d (.int ns.length)) r
  | .own _ l => Q (.d (.int l.length)) r
  | .tp l => Q (.d (.int l.length)) r
  | _ => False
theorem con_len : Con1 X (fun xs H Q => ∃ x n, xs = [x] ∧ LenV X.K x H n ∧ Q (.int n) H) cLen := fun G Z H ks vs r s x tx Q Q3 st px hc k => by
  have fin : ∀ {n : Nat}, Q3 (.d (.int n)) r → Q (.int n) H := fun q => k Z H (.d (.int _)) _ r (Gr.refl _ _) st (Dq.int _) q
  unfold cLen at hc
  split at hc
  · cases (show Dq X.K Z x (.list _) from px) with
    | lst hs ha => exact ⟨_, _, rfl, .inl ⟨_, SqL.of (st.zh _ _ hs), rfl⟩, fin (by rw [← dpa_len ha]; exact hc)⟩
  · cases (show Dq X.K Z x (.tuple _) from px) with
    | tup hs ha => exact ⟨_, _, rfl, .inr ⟨_, SqT.of (st.zh _ _ hs), rfl⟩, fin (by rw [← dpa_len ha]; exact hc)⟩
  · cases px.str
    exact ⟨_, _, rfl, ⟨hc.1, rfl⟩, fin hc.2⟩
  · obtain ⟨rfl, hs⟩ := px
    exact ⟨_, _, rfl, .inl ⟨_, st.zh.L hs, rfl⟩, fin (by rw [List.length_map]; exact hc)⟩
  · have rt := px.now st
    cases rt with
    | own h1 h2 => exact ⟨_, _, rfl, .inl ⟨_, SqL.of h1, rfl⟩, fin (by rw [← rts_len h2]; exact hc)⟩
  · have rt := px.now st
    cases rt with
    | tp h1 h2 => exact ⟨_, _, rfl, .inr ⟨_, SqT.of (st.zh _ _ h1), rfl⟩, fin (by rw [← rts_len h2]; exact hc)⟩
  · exact hc.elim
theorem r3_len (hg : Gl X "len") (hm : X.mg "len" = none) (ha : R3 X a ta) (he : starEach [a] X.env = (false, eval a X.env) :: starEach [] X.env := by rfl) : R3 X (.Call (.Name "len" p) [a] [] pos) (x1 cLen ta) := r3_callB call_len con_len hg hm PySem.boot_len ha (by decide) (by decide) he
/-- abs(i) -/
def cAbs : C1 := fun x r Q => asI x fun i => Q (.d (.int i.natAbs)) r
theorem con_abs : Con1 X (fun xs H Q => ∃ i, xs = [.int i] ∧ Q (.int (if i < 0 then -i else i)) H) cAbs := fun G Z H ks vs r s x tx Q Q3 st px hc k => by
  obtain ⟨i, rfl, q⟩ := asI_of hc
  cases px.int
  have e : (if i < 0 then -i else i) = (i.natAbs : Int) := by split <;> omega
  refine ⟨i, rfl, ?_⟩
  rw [e]
  exact k Z H (.d (.int _)) _ r (Gr.refl _ _) st (Dq.int _) q
theorem r3_abs (hg : Gl X "abs") (hm : X.mg "abs" = none) (ha : R3 X a ta) (he : starEach [a] X.env = (false, eval a X.env) :: starEach [] X.env := by rfl) : R3 X (.Call (.Name "abs" p) [a] [] pos) (x1 cAbs ta) := r3_callB call_abs con_abs hg hm boot_abs ha (by decide) (by decide) he
/-- intL of a list -/
def asIs (t : T) (k : List Int → Prop) : Prop := match t with
  | .d (.list l) => allI l = true ∧ k (intL l)
  | .own _ l => alld l = true ∧ allI (fzs l) = true ∧ k (intL (fzs l))
  | .sc _ ns => k ns
  | _ => False
theorem asIs_of {K : PySem.W.Frag} {G Z H : Hp} {ks : List T} {vs : List V} {r : Rho} {s : L2.St} {t : T} {v : V} {k : List Int → Prop} (h : asIs t k) (st : S3 K G Z H ks vs r s) (p : Pv K Z r s t v) : ∃ a ns, v = .ref a ∧ SqL K H a (ns.map V.int) ∧ k ns := by
  unfold asIs at h
  split at h
  · rename_i l
    cases (show Dq K Z v (.list _) from p) with
    | @lst a xs _ hs ha =>
      have e := allI_eq h.1
      rw [e] at ha
      rw [dqa_inv ha] at hs
      exact ⟨a, _, rfl, SqL.of (st.zh _ _ hs), h.2⟩
  · rename_i a l
    obtain ⟨xs, rfl, h1, d1, _⟩ := own_data (p.now st) h.1
    rw [allI_eq h.2.1] at d1
    rw [dqa_inv d1] at h1
    exact ⟨a, _, rfl, SqL.of h1, h.2.2⟩
  · rename_i a ns
    exact ⟨a, ns, p.1, st.zh.L p.2, h⟩
  · exact h.elim
def cSum : C1 := fun x r Q => asIs x fun ns => Q (.d (.int ns.sum)) r
theorem con_sum : Con1 X (rSum X.K) cSum := fun G Z H ks vs r s x tx Q Q3 st px hc k => by
  obtain ⟨a, ns, rfl, hs, q⟩ := asIs_of hc st px
  exact ⟨a, ns, rfl, hs, k Z H (.d (.int _)) _ r (Gr.refl _ _) st (Dq.int _) q⟩
theorem r3_sum (hc : X.calm = true) (hg : Gl X "sum") (hm : X.mg "sum" = none) (ha : R3 X a ta) (he : starEach [a] X.env = (false, eval a X.env) :: starEach [] X.env := by rfl) : R3 X (.Call (.Name "sum" p) [a] [] pos) (x1 cSum ta) := r3_callB (cr_sum hc) con_sum hg hm boot_sum ha (by decide) (by decide) he
theorem con_max2 : Con2 X (fun x y H Q => ∃ i j, [x, y] = [V.int i, V.int j] ∧ Q (.int (if j > i then j else i)) H) (cI0 fun i j => .int (max i j)) := fun G Z H ks vs r1 r s x y tx ty Q Q3 st px py hc k => by
  obtain ⟨i, rfl, h1⟩ := asI_of hc
  obtain ⟨j, rfl, q⟩ := asI_of h1
  cases px.int
  cases py.int
  have e : (if j > i then j else i) = max i j := by split <;> omega
  refine ⟨i, j, rfl, ?_⟩
  rw [e]
  exact k Z H (.d (.int _)) _ r (Gr.refl _ _) st (Dq.int _) q
theorem con_min2 : Con2 X (fun x y H Q => ∃ i j, [x, y] = [V.int i, V.int j] ∧ Q (.int (if j < i then j else i)) H) (cI0 fun i j => .int (min i j)) := fun G Z H ks vs r1 r s x y tx ty Q Q3 st px py hc k => by
  obtain ⟨i, rfl, h1⟩ := asI_of hc
  obtain ⟨j, rfl, q⟩ := asI_of h1
  cases px.int
  cases py.int
  have e : (if j < i then j else i) = min i j := by split <;> omega
  refine ⟨i, j, rfl, ?_⟩
  rw [e]
  exact k Z H (.d (.int _)) _ r (Gr.refl _ _) st (Dq.int _) q
theorem r3_max2 (hc : X.calm = true) (hg : Gl X "max") (hm : X.mg "max" = none) (ha : R3 X a ta) (hb : R3 X b tb) (he : starEach [a, b] X.env = (false, eval a X.env) :: starEach [b] X.env := by rfl) (he2 : starEach [b] X.env = (false, eval b X.env) :: starEach [] X.env := by rfl) (hpl : (backTo pos (starEach [b] X.env)).any (·.1) = false := by rfl) :
    R3 X (.Call (.Name "max" p) [a, b] [] pos) (x2 (cI0 fun i j => .int (max i j)) ta tb) := r3_callB2 (call_max2 hc) con_max2 hg hm boot_max ha hb (by decide) (by decide) he he2 hpl
theorem r3_min2 (hc : X.calm = true) (hg : Gl X "min") (hm : X.mg "min" = none) (ha : R3 X a ta) (hb : R3 X b tb) (he : starEach [a, b] X.env = (false, eval a X.env) :: starEach [b] X.env := by rfl) (he2 : starEach [b] X.env = (false, eval b X.env) :: starEach [] X.env := by rfl) (hpl : (backTo pos (starEach [b] X.env)).any (·.1) = false := by rfl) :
    R3 X (.Call (.Name "min" p) [a, b] [] pos) (x2 (cI0 fun i j => .int (min i j)) ta tb) := r3_callB2 (call_min2 hc) con_min2 hg hm boot_min ha hb (by decide) (by decide) he he2 hpl
/-- tuple(x) -/
def cTup : C1 := fun x r Q => match x with
  | .d (.list l) => Q (.d (.tuple l)) r
  | .d (.tuple l) => Q (.d (.tuple l)) r
  | .own _ l => alld l = true ∧ Q (.d (.tuple (fzs l))) r
  | .sc _ ns => Q (.d (.tuple (ns.map PyData.int))) r
  | _ => False
theorem con_tup : Con1 X (fun xs H Q => ∃ p ys, xs = [.ref p] ∧ ((SqL X.K H p ys ∧ ∀ l, H l = none → Q (.ref l) (upd H l (.tup ys))) ∨ (SqT X.K H p ys ∧ Q (.ref p) H))) cTup := fun G Z H ks vs r s x tx Q Q3 st px hc k => by
  have new : ∀ {xs : List V} {l : List PyData}, DqAll X.K Z xs l → Q3 (.d (.tuple l)) r → ∀ p, H p = none → Q (.ref p) (upd H p (.tup xs)) := fun {xs l} hd q p hp => by
    obtain ⟨g4, st4⟩ := st.laidG (o := .tup xs) hp
    exact k _ _ (.d (.tuple l)) _ r g4 st4 (Dq.tup upd_same (dpa_mono g4.sub _ _ hd)) q
  unfold cTup at hc
  split at hc
  · cases (show Dq X.K Z x (.list _) from px) with
    | lst hs ha => exact ⟨_, _, rfl, .inl ⟨SqL.of (st.zh _ _ hs), new ha hc⟩⟩
  · cases (show Dq X.K Z x (.tuple _) from px) with
    | tup hs ha => exact ⟨_, _, rfl, .inr ⟨SqT.of (st.zh _ _ hs), k Z H (.d (.tuple _)) _ r (Gr.refl _ _) st (Dq.tup hs ha) hc⟩⟩
  · obtain ⟨xs, rfl, h1, d1, _⟩ := own_data (px.now st) hc.1
    exact ⟨_, _, rfl, .inl ⟨SqL.of h1, new d1 hc.2⟩⟩
  · obtain ⟨rfl, hs⟩ := px
    exact ⟨_, _, rfl, .inl ⟨st.zh.L hs, new (dqa_ints _) hc⟩⟩
  · exact hc.elim
theorem r3_tuple (hg : Gl X "tuple") (hm : X.mg "tuple" = none) (ha : R3 X a ta) (he : starEach [a] X.env = (false, eval a X.env) :: starEach [] X.env := by rfl) : R3 X (.Call (.Name "tuple" p) [a] [] pos) (x1 cTup ta) := r3_callT call_tuple_of con_tup hg hm boot_tuple ha (by decide) (by decide) he
/-- list(x) -/
def cLst : C1 := fun x r Q => match x with
  | .d (.list l) => ∀ p, Q (.own p (l.map T.d)) r
  | .d (.tuple l) => ∀ p, Q (.own p (l.map T.d)) r
  | .own _ l => alld l = true ∧ ∀ p, Q (.own p l) r
  | .sc _ ns => ∀ p, Q (.own p (ns.map fun n => T.d (.int n))) r
  | _ => False
theorem con_lst : Con1P X (fun xs H Q => ∃ p ys, xs = [.ref p] ∧ (SqL X.K H p ys ∨ SqT X.K H p ys) ∧ ∀ l, H l = none → Q (.ref l) (upd H l (.lst ys))) cLst := fun G Z H ks vs r s x tx Q Q3 st px hc k => by
  have new : ∀ {xs : List V} {l : List PyData}, DqAll X.K Z xs l → (∀ p, Q3 (.own p (l.map T.d)) r) → ∀ p, H p = none → Q (.ref p) (upd H p (.lst xs)) := fun {xs l} hd q p hp => k Z _ _ _ r (Gr.refl _ _) (st.newD hd hp) (q p)
  unfold cLst at hc
  split at hc
  · cases (show Dq X.K Z x (.list _) from px) with
    | lst hs ha => exact ⟨_, _, rfl, .inl (SqL.of (st.zh _ _ hs)), new ha hc⟩
  · cases (show Dq X.K Z x (.tuple _) from px) with
    | tup hs ha => exact ⟨_, _, rfl, .inr (SqT.of (st.zh _ _ hs)), new ha hc⟩
  · obtain ⟨xs, rfl, h1, d1, _⟩ := own_data (px.now st) hc.1
    exact ⟨_, _, rfl, .inl (SqL.of h1), new d1 (by rw [← alld_eq hc.1]; exact hc.2)⟩
  · obtain ⟨rfl, hs⟩ := px
    exact ⟨_, _, rfl, .inl (st.zh.L hs), new (dqa_ints _) (fun p => by rw [List.map_map]; exact hc p)⟩
  · exact hc.elim
theorem p3_list (hg : Gl X "list") (hm : X.mg "list" = none) (ha : R3 X a ta) (he : starEach [a] X.env = (false, eval a X.env) :: starEach [] X.env := by rfl) : P3 X (.Call (.Name "list" p) [a] [] pos) (x1 cLst ta) := p3_callT call_list_of con_lst hg hm boot_list ha (by decide) (by decide) he
/-- int(x): an int, a truth, a text -/
def cInt : C1 := fun x r Q => match x with
  | .d (.int i) => Q (.d (.int i)) r
  | .d (.bool b) => Q (.d (.int (if b then 1 else 0))) r
  | .d (.str z) => ∃ n, PySem.intText? z = some n ∧ z.length ≤ 640 ∧ Q (.d (.int n)) r
  | _ => False
theorem con_int : Con1 X (fun xs H Q => ((∃ i, xs = [.int i] ∧ Q (.int i) H) ∨ ∃ k, xs = [.bl k] ∧ Q (.int (if k then 1 else 0)) H) ∨ ∃ a n, xs = [.str a] ∧ PySem.intText? a = some n ∧ a.length ≤ 640 ∧ Q (.int n) H) cInt := fun G Z H ks vs r s x tx Q Q3 st px hc k => by
  unfold cInt at hc
  split at hc
  · cases px.int
    exact .inl (.inl ⟨_, rfl, k Z H (.d (.int _)) _ r (Gr.refl _ _) st (Dq.int _) hc⟩)
  · cases px.bool
    exact .inl (.inr ⟨_, rfl, k Z H (.d (.int _)) _ r (Gr.refl _ _) st (Dq.int _) hc⟩)
  · cases px.str
    obtain ⟨n, h1, h2, q⟩ := hc
    exact .inr ⟨_, n, rfl, h1, h2, k Z H (.d (.int _)) _ r (Gr.refl _ _) st (Dq.int _) q⟩
  · exact hc.elim
theorem r3_int_ (hg : Gl X "int") (hm : X.mg "int" = none) (ha : R3 X a ta) (he : starEach [a] X.env = (false, eval a X.env) :: starEach [] X.env := by rfl) : R3 X (.Call (.Name "int" p) [a] [] pos) (x1 cInt ta) := r3_callT (call_int1.or call_int_str) con_int hg hm boot_int ha (by decide) (by decide) he
end
end L3
namespace L3
open PySem PySem.Spec PyProof.Rows L2
/-! ### a list of one's own is written -/
section
variable {K : PySem.W.Frag} {G Z H : Hp} {ks : List T} {vs : List V} {r : Rho} {s : L2.St} {t : T} {v : V} {a b : Addr} {l l' m m' : List T} {xs xs' : List V}
theorem S3.ownAt (h : S3 K G Z H (t :: .own a l :: ks) (v :: .ref a :: vs) r s) : ∃ xs, H a = some (.lst xs) ∧ RTs K Z H l xs ∧ RT K Z H t v ∧ RTs K Z H ks vs ∧ ct a t = 0 ∧ cts a l = 0 ∧ cts a ks = 0 ∧ cto a r = 0 := by
  have h1 := h.one a
  simp only [cts, ct, if_true] at h1
  cases h.stk with
  | cons q1 q2 =>
    cases q2 with
    | cons q3 q4 =>
      cases q3 with
      | own e1 e2 => exact ⟨_, e1, e2, q1, q4, by omega, by omega, by omega, by omega⟩
theorem S3.write (h : S3 K G Z H (t :: .own a l :: ks) (v :: .ref a :: vs) r s) (rl : RTs K Z H l' xs') (hc : ∀ b, cts b l' ≤ ct b t + cts b l) : S3 K G Z (upd H a (.lst xs')) (.own a l' :: ks) (.ref a :: vs) r s := by
  obtain ⟨xs, e1, e2, e3, e4, c1, c2, c3, c4⟩ := h.ownAt
  have own1 := h.ow a (by simp only [cts, ct, if_true]; omega)
  have keep : ∀ b, b ≠ a → ∀ o, H b = some o → upd H a (.lst xs') b = some o := fun b hb o e => by rw [upd_ne hb]; exact e
  have na : ∀ b, 0 < cts b l' → b ≠ a := fun b hb e => by subst e; have := hc b; omega
  refine ⟨fun b o e => keep b (fun q => by rw [q, own1.1] at e; cases e) o (h.zh b o e), fun b o e => keep b (fun q => by rw [q, own1.2] at e; cases e) o (h.gh b o e), fun b => ?_, fun b c => h.ow b ?_, .cons (.own upd_same (rts_mono (Sub.refl _) _ _ (fun b hb => keep b (na b hb)) rl)) (rts_mono (Sub.refl _) _ _ (fun b hb => keep b (fun q => by subst q; omega)) e4), fun i u e => ?_, h.len⟩
  · have h1 := h.one b
    have h2 := hc b
    simp only [cts, ct] at h1 ⊢
    omega
  · have h2 := hc b
    simp only [cts, ct] at c ⊢
    omega
  · obtain ⟨w, e1, q⟩ := h.slot i u e
    exact ⟨w, e1, rt_mono (Sub.refl _) _ _ (fun b hb => keep b (fun q => by subst q; have := cto_get b r i u e; omega)) q⟩
theorem rts_set : ∀ {l : List T} {xs : List V} (i : Nat), RTs K Z H l xs → RT K Z H t v → RTs K Z H (l.set i t) (xs.set i v)
  | _, _, _, .nil, _ => .nil
  | _, _, 0, .cons _ q, h => .cons h q
  | _, _, i + 1, .cons p q, h => .cons p (rts_set i q h)
theorem rts_snoc {l : List T} {xs : List V} (q : RTs K Z H l xs) (h : RT K Z H t v) : RTs K Z H (l ++ [t]) (xs ++ [v]) := rts_app q (.cons h .nil)
end
/-! ### a call of a def -/
inductive Arg where
  | val (t : T) | io (i : Nat)
def ArgOk (K : PySem.W.Frag) (Z : Hp) (s : L2.St) (x : Arg) (v : V) : Prop :=
  match x with
  | .val (.d x) => Dq K Z v x
  | .val (.v x) => v = x
  | .val (.sc a ns) => v = .ref a ∧ SqL K Z a (ns.map V.int)
  | .val _ => False
  | .io i => s[i]? = some (some v)
theorem ArgOk.keep {K : PySem.W.Frag} {Z Z' : Hp} {s : L2.St} {x : Arg} {v : V} (h : ArgOk K Z s x v) (z : Sub Z Z') : ArgOk K Z' s x v := by
  cases x with
  | io i => exact h
  | val t =>
    cases t with
    | d x => exact dp_mono z x v h
    | v x => exact h
    | sc a ns => exact ⟨h.1, z.L h.2⟩
    | own _ _ => exact h
    | tp _ => exact h
abbrev TC3 := Rho → (List Arg → Rho → Prop) → Prop
structure C3 (X : Cx) (es : List Expr) (t : TC3) : Prop where
  ex : ∃ te : TA, PA X es te ∧ ∀ (G Z H : Hp) (ks : List T) (vs : List V) (r : Rho) (s : L2.St) (Q : List V → Hp → Prop) (Q3 : List Arg → Rho → Prop), S3 X.K G Z H ks vs r s → t r Q3 →
    (∀ Z' H' xs us r', Gr G Z Z' → S3 X.K G Z' H' ks vs r' s → Paired (ArgOk X.K Z' s) xs us → Q3 xs r' → Q us H') → te s H Q
section
variable {X : Cx} {e : Expr} {es : List Expr} {t : TE3} {u : TC3} {pos : Pos}
def xANil : TC3 := fun r Q => Q [] r
theorem c3_nil : C3 X [] xANil := ⟨_, pa_nil, fun G Z H ks vs r s Q Q3 st ht k => k Z H [] [] r (Gr.refl _ _) st .nil ht⟩
def xArg (t : TE3) (u : TC3) : TC3 := fun r Q => t r fun x r1 => match x with | .d y => u r1 fun as r2 => Q (.val (.d y) :: as) r2 | .v y => u r1 fun as r2 => Q (.val (.v y) :: as) r2 | .sc a ns => u r1 fun as r2 => Q (.val (.sc a ns) :: as) r2 | _ => False
theorem c3_val (ha : R3 X e t) (hr : C3 X es u) (hs : starEach (e :: es) X.env = (false, eval e X.env) :: starEach es X.env := by rfl) : C3 X (e :: es) (xArg t u) := by
  obtain ⟨tea, ea, sa⟩ := ha.ex
  obtain ⟨ter, er, sr⟩ := hr.ex
  refine ⟨_, pa_cons ea er hs, fun G Z H ks vs r s Q Q3 st ht k => sa G Z H ks vs r s _ _ st ht fun Z1 H1 x v r1 g1 st1 pv q1 => ?_⟩
  have fin : ∀ x : T, (∀ Z', Sub Z1 Z' → ArgOk X.K Z' s (.val x) v) → u r1 (fun as r2 => Q3 (.val x :: as) r2) → ter s H1 (fun us H2 => Q (v :: us) H2) := fun x ok q => sr G Z1 H1 ks vs r1 s _ _ st1 q fun Z2 H2 xs us r2 g2 st2 hp q2 =>
    k Z2 H2 (.val x :: xs) (v :: us) r2 (g1.trans g2) st2 (.cons (ok Z2 g2.sub) hp) q2
  cases x with
  | d y => exact fin (.d y) (fun Z' z => dp_mono z y v pv) q1
  | v y => exact fin (.v y) (fun Z' z => pv) q1
  | sc a ns => exact fin (.sc a ns) (fun Z' z => ⟨pv.1, z.L pv.2⟩) q1
  | own _ _ => exact q1.elim
  | tp _ => exact q1.elim
def xIo (i : Nat) (u : TC3) : TC3 := fun r Q => match r[i]? with | some (some _) => u r fun as r2 => Q (.io i :: as) r2 | _ => False
theorem c3_io (i : Nat) {x : Str} {p : Pos} (hr : C3 X es u) (hN : X.N[i]? = some x := by rfl) (hv : Vis X.env.scope x := by first | exact Or.inl rfl | exact Or.inr (Or.inl rfl) | exact Or.inr (Or.inr rfl)) (hd : (x == ("__debug__" : Str)) = false := by decide)
    (hcd : (x == ("__classdict__" : Str)) = false := by decide) (hs : starEach (.Name x p :: es) X.env = (false, eval (.Name x p) X.env) :: starEach es X.env := by rfl) : C3 X (.Name x p :: es) (xIo i u) := by
  obtain ⟨ter, er, sr⟩ := hr.ex
  refine ⟨_, pa_cons (pe_var hN hv hd hcd) er hs, fun G Z H ks vs r s Q Q3 st ht k => ?_⟩
  unfold xIo at ht
  split at ht
  · rename_i t e
    obtain ⟨v, ev, _⟩ := st.slot i t e
    exact ⟨v, ev, sr G Z H ks vs r s _ _ st ht fun Z2 H2 xs us r2 g2 st2 hp q2 => k Z2 H2 (.io i :: xs) (v :: us) r2 g2 st2 (.cons ev hp) q2⟩
  · exact ht.elim
end
def looks (r : Rho) : List Arg → Option (List T)
  | [] => some []
  | .val t :: as => (looks r as).map (t :: ·)
  | .io i :: as => match r[i]? with
    | some (some t) => (looks r as).map (t :: ·)
    | _ => none
def ios : List Arg → List Nat
  | [] => []
  | .val _ :: as => ios as
  | .io i :: as => i :: ios as
def puts (r : Rho) : List Arg → List T → Rho
  | .val _ :: as, _ :: ts => puts r as ts
  | .io i :: as, t :: ts => puts (r.set i (some t)) as ts
  | _, _ => r
def outs (r : Rho) : List Arg → Rho
  | [] => r
  | .val _ :: as => outs r as
  | .io i :: as => (outs r as).set i none
theorem outs_len (r : Rho) : ∀ as, (outs r as).length = r.length
  | [] => rfl
  | .val _ :: as => outs_len r as
  | .io i :: as => by show ((outs r as).set i none).length = _; rw [List.length_set, outs_len r as]
theorem outs_get {r : Rho} {j : Nat} : ∀ {as : List Arg}, j ∉ ios as → (outs r as)[j]? = r[j]?
  | [], _ => rfl
  | .val _ :: as, h => outs_get (as := as) h
  | .io i :: as, h => by
    have h1 : j ≠ i := fun e => h (by rw [e]; exact List.mem_cons_self ..)
    have h2 : j ∉ ios as := fun e => h (List.mem_cons_of_mem _ e)
    show ((outs r as).set i none)[j]? = _
    rw [List.getElem?_set_ne (Ne.symm h1)]
    exact outs_get h2
/-- a promise, by values: the arguments (lists of one's own may be changed), what is handed back and the arguments behind the call; an exception's class and the arguments -/
abbrev Sp3 := List T → (T → List T → Prop) → (Addr → List T → Prop) → Prop
def lift (K : PySem.W.Frag) (sp : Sp3) : Sp := fun vs H Q E => ∃ (G Z : Hp) (ts : List T) (Q3 : T → List T → Prop) (E3 : Addr → List T → Prop), S3 K G Z H ts vs [] [] ∧ sp ts Q3 E3 ∧
  (∀ Z' H' x v ts', Gr G Z Z' → S3 K G Z' H' (x :: ts') (v :: vs) [] [] → Q3 x ts' → Q v H') ∧
  (∀ Z' H' C ts', Gr G Z Z' → S3 K G Z' H' ts' vs [] [] → E3 C ts' → E (.ref C) none H')
section
variable {K : PySem.W.Frag} {G Z H : Hp} {ks : List T} {vs : List V} {r : Rho} {s : L2.St}
/-- the arguments taken out of the slots -/
theorem S3.args (h : S3 K G Z H ks vs r s) : ∀ {as : List Arg} {us : List V} {ts : List T}, Paired (ArgOk K Z s) as us → looks r as = some ts → (ios as).Nodup → ts.length = us.length ∧ S3 K G Z H (ts ++ ks) (us ++ vs) (outs r as) s
  | [], _, ts, .nil, e, _ => by
    cases e
    exact ⟨rfl, h⟩
  | .val t :: as, _, ts, .cons p q, e, nd => by
    simp only [looks, Option.map_eq_some_iff] at e
    obtain ⟨ts', e1, rfl⟩ := e
    obtain ⟨hl, st⟩ := h.args q e1 nd
    refine ⟨by simp [hl], ?_⟩
    cases t with
    | d x => exact st.pushD p
    | v x => exact st.push (fun _ => rfl) (by rw [show _ = x from p]; exact .v)
    | sc a ns => exact st.push (fun _ => rfl) (by rw [show _ = V.ref a from p.1]; exact .sc p.2)
    | own _ _ => exact p.elim
    | tp _ => exact p.elim
  | .io i :: as, _, ts, .cons p q, e, nd => by
    simp only [looks] at e
    split at e
    · rename_i t ht
      simp only [Option.map_eq_some_iff] at e
      obtain ⟨ts', e1, rfl⟩ := e
      have nd' : i ∉ ios as ∧ (ios as).Nodup := by
        have : (i :: ios as).Nodup := nd
        rw [List.nodup_cons] at this
        exact this
      obtain ⟨hl, st⟩ := h.args q e1 nd'.2
      refine ⟨by simp [hl], ?_⟩
      obtain ⟨v, ev, st2⟩ := st.take (i := i) (t := t) (by rw [outs_get nd'.1]; exact ht)
      have e2 : s[i]? = some (some _) := p
      rw [ev] at e2
      cases e2
      exact st2
    · cases e
theorem S3.ret : ∀ {as : List Arg} {us : List V} {ts : List T} {r r0 : Rho}, Paired (ArgOk K Z s) as us → ts.length = us.length → (ios as).Nodup → r0.length = r.length → (∀ i, i ∉ ios as → r0[i]? = r[i]?) → (∀ i ∈ ios as, r0[i]? = some none ∨ r0[i]? = none) → S3 K G Z H (ts ++ ks) (us ++ vs) r0 s → S3 K G Z H ks vs (puts r as ts) s
  | [], _, [], r, r0, .nil, _, _, hl, hr, _, h => by
    have e : r0 = r := List.ext_getElem? fun i => hr i (by simp [ios])
    rw [e] at h
    exact h
  | [], _, _ :: _, _, _, .nil, hl, _, _, _, _, _ => by simp at hl
  | .val t :: as, _, [], _, _, .cons p q, hl, _, _, _, _, _ => by simp at hl
  | .io t :: as, _, [], _, _, .cons p q, hl, _, _, _, _, _ => by simp at hl
  | .val t :: as, _, t' :: ts, r, r0, .cons p q, hl, nd, hl0, hr, hn, h => S3.ret (as := as) q (by simpa using hl) nd hl0 hr hn h.pop
  | .io i :: as, _, t' :: ts, r, r0, .cons p q, hl, nd, hl0, hr, hn, h => by
    have nd' : i ∉ ios as ∧ (ios as).Nodup := by
      have : (i :: ios as).Nodup := nd
      rw [List.nodup_cons] at this
      exact this
    by_cases hi : i < r0.length
    · have st := h.back hi p
      refine S3.ret (as := as) (r := r.set i (some t')) q (by simpa using hl) nd'.2 (by rw [List.length_set, List.length_set]; exact hl0) (fun j hj => ?_) (fun j hj => ?_) st
      · by_cases e : j = i
        · subst e
          rw [List.getElem?_set_self hi, List.getElem?_set_self (by omega)]
        · rw [List.getElem?_set_ne (Ne.symm e), List.getElem?_set_ne (Ne.symm e)]
          refine hr j fun z => ?_
          rcases List.mem_cons.mp z with z | z
          · exact e z
          · exact hj z
      · have e : j ≠ i := fun e => nd'.1 (e ▸ hj)
        rw [List.getElem?_set_ne (Ne.symm e)]
        exact hn j (List.mem_cons_of_mem _ hj)
    · have h2 := h.len
      have : i < s.length := (List.getElem?_eq_some_iff.mp (show s[i]? = some (some _) from p)).1
      omega
end
section
variable {X : Cx} {es : List Expr} {e : Expr} {u : TC3} {pos p : Pos} {sp : Sp3} {k : Nat} {f : Addr} {fd : FuncData} {ps : List Str} {x : Str}
def xCall (sp : Sp3) (E : Addr → List T → Prop) (u : TC3) : TE3 := fun r Q => u r fun as r1 => match looks r1 as with
  | some ts => (ios as).Nodup ∧ sp ts (fun x ts' => Q x (puts r1 as ts')) E
  | none => False
theorem outs_none {r : Rho} : ∀ {as : List Arg} {i : Nat}, i ∈ ios as → (outs r as)[i]? = some none ∨ (outs r as)[i]? = none
  | [], i, h => by simp [ios] at h
  | .val _ :: as, i, h => outs_none (as := as) h
  | .io j :: as, i, h => by
    show ((outs r as).set j none)[i]? = some none ∨ ((outs r as).set j none)[i]? = none
    by_cases e : i = j
    · subst e
      by_cases hi : i < (outs r as).length
      · left; rw [List.getElem?_set_self hi]
      · right; exact List.getElem?_eq_none (by rw [List.length_set]; omega)
    · rw [List.getElem?_set_ne (Ne.symm e)]
      rcases List.mem_cons.mp h with z | z
      · exact absurd z e
      · exact outs_none z
/-- from the caller's state to the callee's promise -/
theorem call_run {G Z H : Hp} {ks : List T} {vs : List V} {r : Rho} {s : L2.St} {as : List Arg} {us : List V} {Q : VK} {E : XK} {Q3 : T → Rho → Prop} {E3 : Addr → List T → Prop} (st : S3 X.K G Z H ks vs r s) (hp : Paired (ArgOk X.K Z s) as us)
    (h : match looks r as with | some ts => (ios as).Nodup ∧ sp ts (fun x ts' => Q3 x (puts r as ts')) E3 | none => False)
    (kq : ∀ Z' H' x v r', Gr G Z Z' → S3 X.K G Z' H' (x :: ks) (v :: vs) r' s → Q3 x r' → Q v H')
    (ke : ∀ Z' H' C ts' r', Gr G Z Z' → S3 X.K G Z' H' ks vs r' s → r' = puts r as ts' → E3 C ts' → E (.ref C) none H') : lift X.K sp us H Q E := by
  split at h
  · rename_i ts hl
    obtain ⟨nd, hsp⟩ := h
    obtain ⟨hlen, st1⟩ := st.args hp hl nd
    have splt : ∀ {Z H : Hp} {l : List T} {xs : List V}, l.length = xs.length → RTs X.K Z H (l ++ ks) (xs ++ vs) → RTs X.K Z H l xs ∧ RTs X.K Z H ks vs := by
      intro Z H l
      induction l with
      | nil => intro xs hl q; cases xs with | nil => exact ⟨.nil, q⟩ | cons _ _ => simp at hl
      | cons t l ih =>
        intro xs hl q
        cases xs with
        | nil => simp at hl
        | cons x xs =>
          cases q with
          | cons q1 q2 =>
            obtain ⟨z1, z2⟩ := ih (by simpa using hl) q2
            exact ⟨.cons q1 z1, z2⟩
    obtain ⟨s1, s2⟩ := splt hlen st1.stk
    -- the callee's part
    have sub : S3 X.K (fun a => if 0 < cts a ts then none else H a) Z H ts us [] [] := ⟨st1.zh, fun a o e => by
        by_cases c : 0 < cts a ts
        · simp [c] at e
        · simpa [c] using e, fun a => by have := st1.one a; rw [cts_append] at this; simp only [cto]; omega, fun a c => by
        simp only [cto, Nat.add_zero] at c
        exact ⟨(st1.ow a (by rw [cts_append]; omega)).1, if_pos c⟩, s1, fun i t e => by simp at e, rfl⟩
    -- behind the call
    have gr : ∀ {Z'}, Gr (fun a => if 0 < cts a ts then none else H a) Z Z' → Gr G Z Z' := fun {Z'} g => ⟨g.sub, fun a o e n => by
      have h1 : H a = some o := st1.gh a o e
      have h2 : ¬ 0 < cts a ts := fun c => by have := (st1.ow a (by rw [cts_append]; omega)).2; rw [this] at e; cases e
      exact g.out a o (by rw [if_neg h2]; exact h1) n⟩
    have back : ∀ {Z' H' : Hp} {ys : List T} {ws : List V}, Gr (fun a => if 0 < cts a ts then none else H a) Z Z' → ys.length = ws.length → S3 X.K (fun a => if 0 < cts a ts then none else H a) Z' H' ys ws [] [] → S3 X.K G Z' H' (ys ++ ks) (ws ++ vs) (outs r as) s := fun {Z' H' ys ws} g hy st2 => by
      have other : ∀ a, 0 < cts a ks + cto a (outs r as) → cts a ts = 0 ∧ (∃ xs, H a = some (.lst xs)) ∧ H' a = H a ∧ cts a ys = 0 ∧ Z' a = none := fun a c => by
        have h1 := st1.one a
        rw [cts_append] at h1
        have h0 : cts a ts = 0 := by omega
        obtain ⟨xs, e⟩ := st1.owned (a := a) (by rw [cts_append]; omega)
        have e2 : (fun a => if 0 < cts a ts then none else H a) a = some (.lst xs) := by show (if 0 < cts a ts then none else H a) = _; rw [if_neg (by omega)]; exact e
        have e3 := st2.gh a _ e2
        refine ⟨h0, ⟨xs, e⟩, by rw [e3, e], ?_, g.out a _ e2 (st1.ow a (by rw [cts_append]; omega)).1⟩
        by_cases c2 : 0 < cts a ys
        · have := (st2.ow a (by omega)).2
          have e4 : (if 0 < cts a ts then none else H a) = some (HO.lst xs) := e2
          have e5 : (if 0 < cts a ts then none else H a) = none := this
          rw [e4] at e5; cases e5
        · omega
      refine ⟨st2.zh, fun a o e => ?_, fun a => ?_, fun a c => ?_, ?_, fun i t e => ?_, st1.len⟩
      · have h1 : H a = some o := st1.gh a o e
        have h2 : ¬ 0 < cts a ts := fun c => by have := (st1.ow a (by rw [cts_append]; omega)).2; rw [this] at e; cases e
        exact st2.gh a o (by show (if 0 < cts a ts then none else H a) = _; rw [if_neg h2]; exact h1)
      · rw [cts_append]
        by_cases c : 0 < cts a ks + cto a (outs r as)
        · obtain ⟨_, _, _, h4, _⟩ := other a c
          have h1 := st1.one a
          rw [cts_append] at h1
          omega
        · have h2 := st2.one a
          simp only [cto] at h2
          omega
      · rw [cts_append] at c
        by_cases c2 : 0 < cts a ks + cto a (outs r as)
        · obtain ⟨h0, _, _, _, h5⟩ := other a c2
          exact ⟨h5, (st1.ow a (by rw [cts_append]; omega)).2⟩
        · have c3 : 0 < cts a ys + cto a ([] : Rho) := by simp only [cto]; omega
          obtain ⟨z1, z2⟩ := st2.ow a c3
          refine ⟨z1, ?_⟩
          cases q : G a with
          | none => rfl
          | some o =>
            have h1 : H a = some o := st1.gh a o q
            have h2 : ¬ 0 < cts a ts := fun c => by have := (st1.ow a (by rw [cts_append]; omega)).2; rw [this] at q; cases q
            have z2' : (if 0 < cts a ts then none else H a) = none := z2
            rw [if_neg h2, h1] at z2'; cases z2'
      · exact rts_app st2.stk (rts_mono g.sub _ _ (fun a c o e => by rw [(other a (by omega)).2.2.1]; exact e) s2)
      · obtain ⟨w, e1, q⟩ := st1.slot i t e
        exact ⟨w, e1, rt_mono g.sub _ _ (fun a c o e' => by rw [(other a (by have := cto_get a (outs r as) i t e; omega)).2.2.1]; exact e') q⟩
    refine ⟨_, Z, ts, _, _, sub, hsp, fun Z' H' x v ts' g st2 q => ?_, fun Z' H' C ts' g st2 q => ?_⟩
    · have hl2 : (x :: ts').length = (v :: us).length := rts_len st2.stk
      have st3 := back g hl2 st2
      have hl3 : ts'.length = us.length := by simpa using hl2
      have st4 : S3 X.K G Z' H' (ts' ++ x :: ks) (us ++ v :: vs) (outs r as) s := S3.mid' hl3 st3
      exact kq Z' H' x v _ (gr g) (S3.ret (Paired.mapP hp fun a b z => z.keep g.sub) hl3 nd (outs_len r as) (fun i hi => outs_get hi) (fun i hi => outs_none hi) st4) q
    · have hl2 : ts'.length = us.length := rts_len st2.stk
      have st3 := back g hl2 st2
      exact ke Z' H' C ts' _ (gr g) (S3.ret (Paired.mapP hp fun a b z => z.keep g.sub) hl2 nd (outs_len r as) (fun i hi => outs_get hi) (fun i hi => outs_none hi) st3) rfl q
  · exact h.elim
/-- f(..) of a def that raises nothing -/
theorem p3_call (F : FnOk X.prog X.w X.K X.mg X.base CX0 k f fd ps (lift X.K sp)) (hr : Room k X.A) (hg : Gl X x) (hm : X.mg x = some (.ref f)) (hk : PySem.W.keepIn X.K (.ref f) = true) (hb : Binds X.K fd ps []) (hu : C3 X (e :: es) u)
    (hdb : (x == ("__debug__" : Str)) = false := by decide) (he : starEach (e :: es) X.env = (false, eval e X.env) :: starEach es X.env := by rfl) (hpl : (backTo pos (starEach es X.env)).any (·.1) = false := by rfl) :
    P3 X (.Call (.Name x p) (e :: es) [] pos) (xCall sp (fun _ _ => False) u) := by
  obtain ⟨te, ea, sa⟩ := hu.ex
  refine ⟨_, pe_call F hr hg hm hk hb .nil pass0 ea hdb he hpl, fun G Z H ks vs r s Q Q3 st ht kk => sa G Z H ks vs r s _ _ st ht fun Z1 H1 as us r1 g1 st1 hp q => ?_⟩
  rw [List.append_nil]
  exact call_run st1 hp q (fun Z' H' x v r' g => kk Z' H' x v r' (g1.trans g)) fun _ _ _ _ _ _ _ _ z => z.elim
end
end L3
namespace L3
open PySem PySem.Spec PyProof.Rows L2
structure Ends3 where
  nx : Rho → Prop
  rt : T → Rho → Prop
  bk : Rho → Prop := fun _ => False
  ct : Rho → Prop := fun _ => False
  ex : Addr → Rho → Prop := fun _ _ => False
abbrev TS3 := Ends3 → Rho → Prop
/-- what is wanted by values is what is wanted -/
structure Imp (K : PySem.W.Frag) (W : WX) (G Z : Hp) (D3 : Ends3) (D : Ends) : Prop where
  nx : ∀ Z' H' r s, Gr G Z Z' → S3 K G Z' H' [] [] r s → D3.nx r → D.nx s H'
  rt : ∀ Z' H' r s x v, Gr G Z Z' → S3 K G Z' H' [x] [v] r s → D3.rt x r → D.rt v H'
  bk : ∀ Z' H' r s, Gr G Z Z' → S3 K G Z' H' [] [] r s → D3.bk r → D.bk s H'
  ct : ∀ Z' H' r s, Gr G Z Z' → S3 K G Z' H' [] [] r s → D3.ct r → D.ct s H'
  ex : ∀ Z' H' C r s, Gr G Z Z' → S3 K G Z' H' [] [] r s → D3.ex C r → W (.ref C) none s H'
theorem Imp.mono {K : PySem.W.Frag} {W : WX} {G Z Z1 : Hp} {D3 : Ends3} {D : Ends} (h : Imp K W G Z D3 D) (g : Gr G Z Z1) : Imp K W G Z1 D3 D :=
  ⟨fun Z' H' r s g' => h.nx Z' H' r s (g.trans g'), fun Z' H' r s x v g' => h.rt Z' H' r s x v (g.trans g'), fun Z' H' r s g' => h.bk Z' H' r s (g.trans g'), fun Z' H' r s g' => h.ct Z' H' r s (g.trans g'), fun Z' H' C r s g' => h.ex Z' H' C r s (g.trans g')⟩
/-- a statement; a block -/
structure M3 (X : Cx) (st : Stmt) (t : TS3) : Prop where
  ex : ∀ W : WX, Takes X W → ∃ te : TS, PS X st te ∧ ∀ (G Z H : Hp) (r : Rho) (s : L2.St) (D : Ends) (D3 : Ends3), S3 X.K G Z H [] [] r s → t D3 r → Imp X.K W G Z D3 D → te D s H
structure B3 (X : Cx) (st : List Stmt) (t : TS3) : Prop where
  ex : ∀ W : WX, Takes X W → ∃ te : TS, PSs X st te ∧ ∀ (G Z H : Hp) (r : Rho) (s : L2.St) (D : Ends) (D3 : Ends3), S3 X.K G Z H [] [] r s → t D3 r → Imp X.K W G Z D3 D → te D s H
section
variable {X : Cx} {st : Stmt} {rest body : List Stmt} {t u : TS3} {e : Expr} {te : TE3} {tt : TT3} {pos : Pos}
def xNext : TS3 := fun D r => D.nx r
def xSeq (t u : TS3) : TS3 := fun D r => t { D with nx := u D } r
theorem b3_nil : B3 X [] xNext := ⟨fun _ _ => ⟨_, pss_nil, fun G Z H r s D D3 st ht im => im.nx Z H r s (Gr.refl _ _) st ht⟩⟩
theorem b3_cons (h1 : M3 X st t) (h2 : B3 X rest u) : B3 X (st :: rest) (xSeq t u) := by
  refine ⟨fun Wx tk => ?_⟩
  obtain ⟨tea, ea, sa⟩ := h1.ex Wx tk
  obtain ⟨teb, eb, sb⟩ := h2.ex Wx tk
  exact ⟨_, pss_cons ea eb, fun G Z H r s D D3 st ht im => sa G Z H r s _ _ st ht ⟨fun Z' H' r' s' g st' q => sb G Z' H' r' s' D D3 st' q (im.mono g), im.rt, im.bk, im.ct, im.ex⟩⟩
theorem b3_one (h1 : M3 X st t) : B3 X [st] t := by
  refine ⟨fun Wx tk => ?_⟩
  obtain ⟨tea, ea, sa⟩ := h1.ex Wx tk
  exact ⟨_, pss_one ea, sa⟩
def xNever : TS3 := fun _ _ => False
theorem m3_never : M3 X st xNever := ⟨fun _ _ => ⟨_, ps_never, fun G Z H r s D D3 st ht im => ht.elim⟩⟩
/-- an expression whose value is dropped -/
def xDrop (te : TE3) : TS3 := fun D r => te r fun _ r' => D.nx r'
theorem m3_expr (h : P3 X e te) (hs : swapsWith e none pos.line X.env = pure false := by rfl) : M3 X (.Expr e pos) (xDrop te) := by
  refine ⟨fun Wx tk => ?_⟩
  obtain ⟨tea, ea, sa⟩ := h.ex
  exact ⟨_, ps_expr ea hs, fun G Z H r s D D3 st ht im => sa G Z H [] [] r s _ _ st ht fun Z' H' x v r' g st' q => im.nx Z' H' r' s g st'.pop q⟩
def xRet (te : TE3) : TS3 := fun D r => te r D.rt
theorem m3_ret (h : P3 X e te) : M3 X (.Return (some e) pos) (xRet te) := by
  refine ⟨fun Wx tk => ?_⟩
  obtain ⟨tea, ea, sa⟩ := h.ex
  exact ⟨_, ps_ret ea, fun G Z H r s D D3 st ht im => sa G Z H [] [] r s _ _ st ht fun Z' H' x v r' g st' q => im.rt Z' H' r' s x v g st' q⟩
def xIfS (c : TT3) (t u : TS3) : TS3 := fun D r => c r fun b r' => (b = true → t D r') ∧ (b = false → u D r')
theorem m3_if {c : Expr} {a b : List Stmt} (hc : T3 X c tt) (ha : B3 X a t) (hb : B3 X b u) : M3 X (.If c a b pos) (xIfS tt t u) := by
  refine ⟨fun Wx tk => ?_⟩
  obtain ⟨tec, ec, sc⟩ := hc.ex
  obtain ⟨tea, ea, sa⟩ := ha.ex Wx tk
  obtain ⟨teb, eb, sb⟩ := hb.ex Wx tk
  refine ⟨_, ps_if ec ea eb, fun G Z H r s D D3 st ht im => sc G Z H [] [] r s _ _ st ht fun Z' H' d r' g st' q => ?_⟩
  cases d with
  | true => exact sa G Z' H' r' s D D3 st' (q.1 rfl) (im.mono g)
  | false => exact sb G Z' H' r' s D D3 st' (q.2 rfl) (im.mono g)
/-- a slot's own list frozen, ahead of a block -/
def xFzS (i : Nat) (t : TS3) : TS3 := fun D r => match r[i]? with | some (some x) => nv x = true ∧ t D (r.set i (some (.d (fz x)))) | _ => False
theorem S3.fzSlot {K : PySem.W.Frag} {G Z H : Hp} {ks : List T} {vs : List V} {r : Rho} {s : L2.St} {i : Nat} {x : T} (h : S3 K G Z H ks vs r s) (e : r[i]? = some (some x)) (n : nv x = true) : ∃ Z', Gr G Z Z' ∧ S3 K G Z' H ks vs (r.set i (some (.d (fz x)))) s := by
  obtain ⟨v, ev, st1⟩ := h.take e
  obtain ⟨Z', g, st2⟩ := st1.freezeG n
  refine ⟨Z', g, ?_⟩
  have hi : i < r.length := (List.getElem?_eq_some_iff.mp e).1
  have st3 := st2.back (i := i) (by rw [List.length_set]; exact hi) ev
  rw [List.set_set] at st3
  exact st3
theorem b3_fz (i : Nat) {sts : List Stmt} (h : B3 X sts t) : B3 X sts (xFzS i t) := by
  refine ⟨fun Wx tk => ?_⟩
  obtain ⟨te, ea, sa⟩ := h.ex Wx tk
  refine ⟨te, ea, fun G Z H r s D D3 st ht im => ?_⟩
  unfold xFzS at ht
  split at ht
  · rename_i x e
    obtain ⟨Z', g, st'⟩ := st.fzSlot e ht.1
    exact sa G Z' H _ s D D3 st' ht.2 (im.mono g)
  · exact ht.elim
end
/-! ### targets -/
abbrev TG3 := T → Rho → (Rho → Prop) → Prop
abbrev TGs3 := List T → Rho → (Rho → Prop) → Prop
structure G3 (X : Cx) (tg : Expr) (js : List Nat) (g : TG3) : Prop where
  ex : ∃ te : TG, PG X tg te ∧ ∀ (G Z H : Hp) (ks : List T) (vs : List V) (r : Rho) (s : L2.St) (x : T) (v : V) (Q : L2.St → Hp → Prop) (Q3 : Rho → Prop), S3 X.K G Z H (x :: ks) (v :: vs) r s → g x r Q3 →
    (∀ Z' H' r' s', Gr G Z Z' → S3 X.K G Z' H' ks vs r' s' → s'.length = s.length → (∀ i, i ∉ js → s'[i]? = s[i]?) → Q3 r' → Q s' H') → te v s H Q
structure Gs3 (X : Cx) (tg : List Expr) (js : List Nat) (g : TGs3) : Prop where
  ex : ∃ te : TGs, PGs X tg te ∧ ∀ (G Z H : Hp) (ks : List T) (vs : List V) (r : Rho) (s : L2.St) (xs : List T) (us : List V) (Q : L2.St → Hp → Prop) (Q3 : Rho → Prop), xs.length = us.length → S3 X.K G Z H (xs ++ ks) (us ++ vs) r s → g xs r Q3 →
    (∀ Z' H' r' s', Gr G Z Z' → S3 X.K G Z' H' ks vs r' s' → s'.length = s.length → (∀ i, i ∉ js → s'[i]? = s[i]?) → Q3 r' → Q s' H') → te us s H Q
section
variable {K : PySem.W.Frag} {G Z H : Hp} {ks : List T} {vs : List V} {r : Rho} {s : L2.St} {t : T} {v : V} {i : Nat}
theorem S3.store (h : S3 K G Z H (t :: ks) (v :: vs) r s) : S3 K G Z H ks vs (r.set i (some t)) (s.set i (some v)) := by
  by_cases hi : i < r.length
  · exact h.put hi
  · have h2 := h.len
    rw [List.set_eq_of_length_le (by omega), List.set_eq_of_length_le (by omega)]
    exact h.pop
end
section
variable {X : Cx} {e o a b c : Expr} {es : List Expr} {g : TG3} {gs : TGs3} {js ls : List Nat} {t ta ti : TE3} {pos : Pos}
def xGName (i : Nat) : TG3 := fun x r Q => Q (r.set i (some x))
theorem g3_name (i : Nat) {x : Str} (hN : X.N.Nodup) (hi : X.N[i]? = some x := by rfl) (hx : Loc X.env.scope x := by first | exact Or.inl rfl | exact Or.inr rfl) (hf : X.fn x = true ∨ X.env.scope.names.lookup x = some .local := by first | exact .inl rfl | exact .inr rfl | assumption) : G3 X (.Name x pos) [i] (xGName i) := by
  refine ⟨_, pg_name hN hi hx hf, fun G Z H ks vs r s x v Q Q3 st hg k => k Z H _ _ (Gr.refl _ _) st.store (by rw [List.length_set]) (fun j hj => ?_) hg⟩
  rw [List.getElem?_set_ne]
  intro q
  exact hj (by rw [q]; exact List.mem_singleton.mpr rfl)
def xGNil : TGs3 := fun xs r Q => match xs with | [] => Q r | _ => False
def xGCons (g : TG3) (gs : TGs3) : TGs3 := fun xs r Q => match xs with | x :: rest => g x r fun r' => gs rest r' Q | [] => False
theorem gs3_nil : Gs3 X [] [] xGNil := by
  refine ⟨_, pgs_nil, fun G Z H ks vs r s xs us Q Q3 hl st hg k => ?_⟩
  cases xs with
  | nil =>
    cases us with
    | nil => exact ⟨rfl, k Z H r s (Gr.refl _ _) st rfl (fun _ _ => rfl) hg⟩
    | cons _ _ => simp at hl
  | cons _ _ => exact hg.elim
theorem gs3_cons (h1 : G3 X e js g) (h2 : Gs3 X es ls gs) (hs : (assignEach (e :: es) X.env).map (·.2) = assign e X.env :: (assignEach es X.env).map (·.2) := by rfl) : Gs3 X (e :: es) (js ++ ls) (xGCons g gs) := by
  obtain ⟨te, ea, sa⟩ := h1.ex
  obtain ⟨tes, eas, sas⟩ := h2.ex
  refine ⟨_, pgs_cons ea eas hs, fun G Z H ks vs r s xs us Q Q3 hl st hg k => ?_⟩
  cases xs with
  | nil => exact hg.elim
  | cons x xs =>
    cases us with
    | nil => simp at hl
    | cons u us =>
      refine ⟨u, us, rfl, sa G Z H (xs ++ ks) (us ++ vs) r s x u _ _ st hg fun Z1 H1 r1 s1 g1 st1 l1 e1 q1 => sas G Z1 H1 ks vs r1 s1 xs us _ _ (by simpa using hl) st1 q1 fun Z2 H2 r2 s2 g2 st2 l2 e2 q2 => k Z2 H2 r2 s2 (g1.trans g2) st2 (l2.trans l1) (fun i hi => ?_) q2⟩
      rw [List.mem_append] at hi
      exact (e2 i fun z => hi (.inr z)).trans (e1 i fun z => hi (.inl z))
def xGTup (n : Nat) (gs : TGs3) : TG3 := fun x r Q => match x with | .d (.tuple l) => l.length = n ∧ gs (l.map T.d) r Q | .tp l => l.length = n ∧ gs l r Q | _ => False
theorem g3_tup {kk n : Nat} (hc : X.calm = true) (h : Gs3 X es js gs) (hn : (assignEach es X.env).length = n := by rfl) (hst : (assignEach es X.env).findIdx? (·.1) = none := by rfl) : G3 X (.Tuple es kk pos) js (xGTup n gs) := by
  obtain ⟨te, ea, sa⟩ := h.ex
  refine ⟨_, pg_tup hc ea hn hst, fun G Z H ks vs r s x v Q Q3 st hg k => ?_⟩
  unfold xGTup at hg
  split at hg
  · rename_i l
    cases st.top with
    | d h =>
      cases h with
      | @tup a0 xs _ hs ha =>
        have hl : l.length = xs.length := dpa_len ha
        have st0 := st.pop
        have st4 : S3 X.K G Z H (l.map T.d ++ ks) (xs ++ vs) r s := ⟨st0.zh, st0.gh, fun a => by rw [cts_append, cts_d]; have := st0.one a; omega, fun a c => st0.ow a (by rw [cts_append, cts_d] at c; omega), rts_app (rts_of_dpa ha) st0.stk, st0.slot, st0.len⟩
        exact ⟨a0, xs, rfl, SqT.of (st.zh _ _ hs), by rw [← hl]; exact hg.1, sa G Z H ks vs r s _ xs Q Q3 (by rw [List.length_map]; exact hl) st4 hg.2 k⟩
  · rename_i l
    cases st.top with
    | @tp a0 _ xs h1 h2 =>
      have hl : l.length = xs.length := rts_len h2
      have st0 := st.pop
      have st4 : S3 X.K G Z H (l ++ ks) (xs ++ vs) r s := ⟨st.zh, st.gh, fun a => by have := st.one a; simp only [cts, ct] at this; rw [cts_append]; omega, fun a c => st.ow a (by rw [cts_append] at c; simp only [cts, ct]; omega), rts_app h2 st0.stk, st.slot, st.len⟩
      exact ⟨a0, xs, rfl, SqT.of (st.zh _ _ h1), by rw [← hl]; exact hg.1, sa G Z H ks vs r s _ xs Q Q3 hl st4 hg.2 k⟩
  · exact hg.elim
/-- a list with another item at a place -/
def setI {α : Type} (l : List α) (i : Int) (x : α) : Option (List α) := if 0 ≤ i then (if i < (l.length : Int) then some (l.set i.toNat x) else none) else if -(l.length : Int) ≤ i then some (l.set (i + l.length).toNat x) else none
theorem setI_of {α : Type} {l l' : List α} {i : Int} {x : α} (h : setI l i x = some l') : ∃ j, ixN l.length i = some j ∧ l' = l.set j x ∧ j < l.length := by
  unfold setI at h
  unfold ixN
  split at h
  · split at h
    · cases h; exact ⟨_, by rw [if_pos (by assumption), if_pos (by assumption)], rfl, by omega⟩
    · cases h
  · split at h
    · cases h; exact ⟨_, by rw [if_neg (by assumption), if_pos (by assumption)], rfl, by omega⟩
    · cases h
/-- x[i] = .., x a list of one's own -/
def xGSub (i : Nat) (ti : TE3) : TG3 := fun x r Q => match r[i]? with
  | some (some (.own _ _)) => ti r fun y r1 => asI y fun j => (match r1[i]? with
    | some (some (.own a l)) => ∃ l', setI l j x = some l' ∧ Q (r1.set i (some (.own a l')))
    | _ => False)
  | _ => False
theorem g3_sub (i : Nat) {x : Str} {p : Pos} (hb : R3 X b ti) (hN : X.N[i]? = some x := by rfl) (hv : Vis X.env.scope x := by first | exact Or.inl rfl | exact Or.inr (Or.inl rfl) | exact Or.inr (Or.inr rfl)) (hd : (x == ("__debug__" : Str)) = false := by decide)
    (hcd : (x == ("__classdict__" : Str)) = false := by decide)
    (ha : ∀ v, assign (.Subscript (.Name x p) b pos) X.env v = (do
      let ov ← holding [v] (eval (.Name x p) X.env)
      let iv ← holding [v, ov] (eval b X.env)
      standAt pos
      holding [v, ov, iv] (setItem ov iv v)
      release [v, ov, iv] []) := by intro _; rfl) : G3 X (.Subscript (.Name x p) b pos) [] (xGSub i ti) := by
  obtain ⟨tei, ei, si⟩ := hb.ex
  refine ⟨_, pg_sub (pe_var hN hv hd hcd) ei set_list ha, fun G Z H ks vs r s x v Q Q3 st hg k => ?_⟩
  unfold xGSub at hg
  split at hg
  · rename_i a0 l0 hr0
    obtain ⟨w, ew, _⟩ := st.slot i _ hr0
    refine ⟨w, ew, si G Z H (x :: ks) (v :: vs) r s _ _ st hg fun Z1 H1 y u r1 g1 st1 pv q0 => ?_⟩
    obtain ⟨j, rfl, q⟩ := asI_of q0
    clear q0
    cases pv.int
    split at q
    · rename_i a l hr
      obtain ⟨l', hl', q⟩ := q
      obtain ⟨n, en, rfl, hn⟩ := setI_of hl'
      obtain ⟨w2, ew2, st2⟩ := st1.take hr
      rw [ew] at ew2
      cases ew2
      have rt := st2.top
      cases rt with
      | @own _ _ xs e1 e2 =>
        have st3 := S3.mid' (l := [x]) (xs := [v]) rfl st2
        have hln := rts_len e2
        have rx : RT X.K Z1 H1 x v := by cases st3.stk with | cons q _ => exact q
        have st4 := st3.write (l' := l.set n x) (xs' := xs.set n v) (rts_set n e2 rx) (fun c => by have := cts_set c l n l[n] x (List.getElem?_eq_getElem hn); omega)
        have st5 := st4.back (i := i) (by rw [List.length_set]; exact (List.getElem?_eq_some_iff.mp hr).1) ew
        rw [List.set_set] at st5
        exact ⟨a, xs, j, n, rfl, rfl, e1, by rw [← hln]; exact en, k _ _ _ s g1 st5 rfl (fun _ _ => rfl) q⟩
    · exact q.elim
  · exact hg.elim
/-! ### assignments -/
def xAsg (t : TE3) (g : TG3) : TS3 := fun D r => t r fun x r' => g x r' D.nx
theorem m3_asg {tg : Expr} (he : P3 X e t) (hg : G3 X tg js g) (hs : swapsWithSole [tg] e pos.line X.env = pure false := by rfl) (hw : swappedStores [tg] e X.env = pure none := by rfl)
    (h1 : (assignEach [tg] X.env).map (·.2) = [assign tg X.env] := by rfl) : M3 X (.Assign [tg] e pos) (xAsg t g) := by
  refine ⟨fun Wx tk => ?_⟩
  obtain ⟨te, ee, se⟩ := he.ex
  obtain ⟨tg', eg, sg⟩ := hg.ex
  exact ⟨_, ps_asg ee eg hs hw h1, fun G Z H r s D D3 st ht im => se G Z H [] [] r s _ _ st ht fun Z1 H1 x v r1 g1 st1 q => sg G Z1 H1 [] [] r1 s x v _ _ st1 q fun Z2 H2 r2 s2 g2 st2 _ _ q2 => im.nx Z2 H2 r2 s2 (g1.trans g2) st2 q2⟩
theorem m3_set (i : Nat) {x : Str} {p' : Pos} (he : P3 X e t) (hN : X.N.Nodup) (hi : X.N[i]? = some x := by rfl) (hx : Loc X.env.scope x := by first | exact Or.inl rfl | exact Or.inr rfl) (hs : swapsWith e (some (.Name x p')) pos.line X.env = pure false := by rfl) (hf : X.fn x = true ∨ X.env.scope.names.lookup x = some .local := by first | exact .inl rfl | exact .inr rfl | assumption) :
    M3 X (.Assign [.Name x p'] e pos) (xAsg t (xGName i)) := by
  refine ⟨fun Wx tk => ?_⟩
  obtain ⟨te, ee, se⟩ := he.ex
  exact ⟨_, ps_set hN hi hx ee hs hf, fun G Z H r s D D3 st ht im => se G Z H [] [] r s _ _ st ht fun Z1 H1 x v r1 g1 st1 q => im.nx Z1 H1 _ _ g1 st1.store q⟩
/-- x op= e, ints -/
def xAug (C : Int → Int → Prop) (f : Int → Int → Int) (i : Nat) (t : TE3) : TS3 := fun D r => match r[i]? with
  | some (some (.d (.int m))) => t r fun y r' => asI y fun n => C m n ∧ D.nx (r'.set i (some (.d (.int (f m n)))))
  | _ => False
theorem m3_aug {op : Operator} {C : Int → Int → Prop} {f : Int → Int → Int} (i : Nat) {x : Str} {p' : Pos} (ho : OpR X (inplaceOp op) (rI C fun m n => .int (f m n))) (he : R3 X e t) (hN : X.N.Nodup) (hi : X.N[i]? = some x := by rfl) (hx : Loc X.env.scope x := by first | exact Or.inl rfl | exact Or.inr rfl) (hf : X.fn x = true ∨ X.env.scope.names.lookup x = some .local := by first | exact .inl rfl | exact .inr rfl | assumption) :
    M3 X (.AugAssign (.Name x p') op e pos) (xAug C f i t) := by
  refine ⟨fun Wx tk => ?_⟩
  obtain ⟨te, ee, se⟩ := he.ex
  refine ⟨_, ps_aug hN hi hx ee (fun pins s σ H x y v u Q I rx ry h => ho pins s σ H x y v u Q I rx ry h) hf, fun G Z H r s D D3 st ht im => ?_⟩
  unfold xAug at ht
  split at ht
  · rename_i m hr
    obtain ⟨w, ew, rt⟩ := st.slot i _ hr
    have ew2 : w = .int m := by
      cases rt with
      | d h => cases h; rfl
    subst ew2
    refine ⟨_, ew, se G Z H [] [] r s _ _ st ht fun Z1 H1 y v r1 g1 st1 pv q0 => ?_⟩
    obtain ⟨n, rfl, hC, q⟩ := asI_of q0
    exact ⟨m, n, rfl, pv.int, hC, im.nx Z1 H1 _ _ g1 (st1.pushD (.int _)).store q⟩
  · exact ht.elim
theorem iop_add3 : OpR X (inplaceOp .Add) (rI (fun _ _ => True) fun i j => .int (i + j)) := opI fun _ _ _ _ _ _ _ _ q => iadd_int q
theorem iop_mul3 : OpR X (inplaceOp .Mult) (rI MulOk fun i j => .int (i * j)) := opI fun _ _ _ _ _ _ _ hc q => imul_int q hc.ok
end
/-! ### while, for -/
section
variable {X : Cx} {e iter tg : Expr} {body : List Stmt} {tt : TT3} {tb : TS3} {g : TG3} {js : List Nat} {t : TE3} {pos : Pos}
def xWhile (c : TT3) (tb : TS3) : TS3 := fun D r => ∃ W : Nat → Rho → Prop, (∃ m, W m r) ∧ ∀ m r, W m r → c r fun b r1 => (b = true → tb { D with nx := fun r' => ∃ m', m' < m ∧ W m' r', ct := fun r' => ∃ m', m' < m ∧ W m' r', bk := D.nx } r1) ∧ (b = false → D.nx r1)
theorem m3_while {c : Expr} (hp : PassesOwn (model X.prog X.w) X.A X.env X.xe) (hc : T3 X c tt) (hb : B3 X body tb) : M3 X (.While c body [] pos) (xWhile tt tb) := by
  refine ⟨fun Wx tk => ?_⟩
  obtain ⟨tec, ec, sc⟩ := hc.ex
  obtain ⟨teb, eb, sb⟩ := hb.ex Wx tk
  refine ⟨_, ps_while hp ec eb, fun G Z H r s D D3 st ht im => ?_⟩
  obtain ⟨W, ⟨m0, w0⟩, turn⟩ := ht
  refine ⟨fun m s H => ∃ Z' r, Gr G Z Z' ∧ S3 X.K G Z' H [] [] r s ∧ W m r, ⟨m0, Z, r, Gr.refl _ _, st, w0⟩, ?_⟩
  rintro m s1 H1 ⟨Z1, r1, g1, st1, w1⟩
  refine sc G Z1 H1 [] [] r1 s1 _ _ st1 (turn m r1 w1) fun Z2 H2 b r2 g2 st2 q => ?_
  cases b with
  | false => exact im.nx Z2 H2 r2 s1 (g1.trans g2) st2 (q.2 rfl)
  | true =>
    rw [if_pos rfl]
    refine ⟨fun s' H' => ∃ m', m' < m ∧ ∃ Z' r, Gr G Z Z' ∧ S3 X.K G Z' H' [] [] r s' ∧ W m' r, fun s' H' h => h, ?_⟩
    refine sb G Z2 H2 r2 s1 _ _ st2 (q.1 rfl) ⟨fun Z3 H3 r3 s3 g3 st3 q3 => ?_, fun Z3 H3 r3 s3 x v g3 st3 q3 => im.rt Z3 H3 r3 s3 x v ((g1.trans g2).trans g3) st3 q3, fun Z3 H3 r3 s3 g3 st3 q3 => im.nx Z3 H3 r3 s3 ((g1.trans g2).trans g3) st3 q3, fun Z3 H3 r3 s3 g3 st3 q3 => ?_, fun Z3 H3 C r3 s3 g3 st3 q3 => im.ex Z3 H3 C r3 s3 ((g1.trans g2).trans g3) st3 q3⟩
    · obtain ⟨m', hm, w'⟩ := q3
      exact ⟨m', hm, Z3, r3, (g1.trans g2).trans g3, st3, w'⟩
    · obtain ⟨m', hm, w'⟩ := q3
      exact ⟨m', hm, Z3, r3, (g1.trans g2).trans g3, st3, w'⟩
/-- what an iterator yields -/
def Yld (K : PySem.W.Frag) (Z H : Hp) (x : PyData) (v : V) (H' : Hp) : Prop := (H' = H ∧ Dq K Z v x) ∨ ∃ p o, H p = none ∧ H' = upd H p o ∧ Dq K (upd Z p o) v x
def Walks (K : PySem.W.Frag) (Z : Hp) (J : It) (items : List PyData) : Prop := ∀ Z' H i, Sub Z Z' → Sub Z' H →
  (∀ x, items[i]? = some x → J.go i H ∧ ∀ v H', J.yld i H v H' → Yld K Z' H x v H') ∧ (items.length ≤ i → J.stop i H)
abbrev TI3 := Rho → (List PyData → Rho → Prop) → Prop
structure I3 (X : Cx) (tg iter : Expr) (w : TI3) : Prop where
  ex : ∃ wi : TI, PI X tg iter wi ∧ ∀ (G Z H : Hp) (ks : List T) (vs : List V) (r : Rho) (s : L2.St) (R : It → Hp → Prop) (Q3 : List PyData → Rho → Prop), S3 X.K G Z H ks vs r s → w r Q3 →
    (∀ Z' H' J items r', Gr G Z Z' → S3 X.K G Z' H' ks vs r' s → Walks X.K Z' J items → Q3 items r' → R J H') → wi s H R
def xFor (w : TI3) (g : TG3) (tb : TS3) : TS3 := fun D r => w r fun items r1 => ∃ W : Nat → Rho → Prop, W 0 r1 ∧ (∀ i x r, items[i]? = some x → W i r → g (.d x) r fun r2 => tb { D with nx := W (i + 1), ct := W (i + 1), bk := D.nx } r2) ∧ ∀ r, W items.length r → D.nx r
theorem Yld.st {K : PySem.W.Frag} {G Z H H' : Hp} {ks : List T} {vs : List V} {r : Rho} {s : L2.St} {x : PyData} {v : V} (y : Yld K Z H x v H') (st : S3 K G Z H ks vs r s) : ∃ Z', Gr G Z Z' ∧ S3 K G Z' H' (.d x :: ks) (v :: vs) r s := by
  rcases y with ⟨rfl, d⟩ | ⟨p, o, hp, rfl, d⟩
  · exact ⟨Z, Gr.refl _ _, st.pushD d⟩
  · obtain ⟨g, st2⟩ := st.laidG (o := o) hp
    exact ⟨_, g, st2.pushD d⟩
theorem m3_for {w : TI3} (hp : PassesOwn (model X.prog X.w) X.A X.env X.xe) (hc : X.calm = true) (hi : I3 X tg iter w) (hg : G3 X tg js g) (hb : B3 X body tb) (hs : ∀ x, foldedSetIterable iter X.env x = pure x := by intro _; rfl) : M3 X (.For tg iter body [] pos) (xFor w g tb) := by
  refine ⟨fun Wx tk => ?_⟩
  obtain ⟨wi, ei, si⟩ := hi.ex
  obtain ⟨tg', eg, sg⟩ := hg.ex
  obtain ⟨teb, eb, sb⟩ := hb.ex Wx tk
  refine ⟨_, ps_for hp hc ei eg eb hs, fun G Z H r s D D3 st ht im => si G Z H [] [] r s _ _ st ht fun Z0 H0 J items r0 g0 st0 wk q => ?_⟩
  obtain ⟨W, w0, turn, done⟩ := q
  refine ⟨fun i m s H => m = items.length - i ∧ i ≤ items.length ∧ ∃ Z' r, Gr G Z0 Z' ∧ S3 X.K G Z' H [] [] r s ∧ W i r, ⟨_, rfl, Nat.zero_le _, Z0, r0, Gr.refl _ _, st0, w0⟩, ?_⟩
  rintro i m s1 H1 ⟨rfl, hi, Z1, r1, g1, st1, w1⟩
  by_cases hlt : i < items.length
  · obtain ⟨go, y⟩ := (wk Z1 H1 i g1.sub st1.zh).1 items[i] (List.getElem?_eq_getElem hlt)
    refine .inr ⟨go, fun s' H' => ∃ Z' r, Gr G Z0 Z' ∧ S3 X.K G Z' H' [] [] r s' ∧ W (i + 1) r, fun s' H' h => ⟨items.length - (i + 1), by omega, rfl, hlt, h⟩, fun x H' yx => ?_⟩
    obtain ⟨Z2, g2, st2⟩ := (y x H' yx).st st1
    refine sg G Z2 H' [] [] r1 s1 _ x _ _ st2 (turn i _ r1 (List.getElem?_eq_getElem hlt) w1) fun Z3 H3 r3 s3 g3 st3 _ _ q3 => ?_
    have gg := (g1.trans g2).trans g3
    exact sb G Z3 H3 r3 s3 _ _ st3 q3 ⟨fun Z4 H4 r4 s4 g4 st4 q4 => ⟨Z4, r4, gg.trans g4, st4, q4⟩, fun Z4 H4 r4 s4 x v g4 st4 q4 => im.rt Z4 H4 r4 s4 x v (g0.trans (gg.trans g4)) st4 q4,
      fun Z4 H4 r4 s4 g4 st4 q4 => im.nx Z4 H4 r4 s4 (g0.trans (gg.trans g4)) st4 q4, fun Z4 H4 r4 s4 g4 st4 q4 => ⟨Z4, r4, gg.trans g4, st4, q4⟩, fun Z4 H4 C r4 s4 g4 st4 q4 => im.ex Z4 H4 C r4 s4 (g0.trans (gg.trans g4)) st4 q4⟩
  · have e : i = items.length := by omega
    subst e
    exact .inl ⟨(wk Z1 H1 _ g1.sub st1.zh).2 (Nat.le_refl _), im.nx Z1 H1 r1 s1 (g0.trans g1) st1 (done r1 w1)⟩
/-! what is walked -/
end
end L3
namespace L3
open PySem PySem.Spec PyProof.Rows L2
/-! ### the weakest reading -/
def lowP (K : PySem.W.Frag) (t : TE3) : TE := fun s H Q => ∃ (G Z : Hp) (ks : List T) (vs : List V) (r : Rho) (Q3 : T → Rho → Prop), S3 K G Z H ks vs r s ∧ t r Q3 ∧ ∀ Z' H' x v r', Gr G Z Z' → S3 K G Z' H' (x :: ks) (v :: vs) r' s → Q3 x r' → Q v H'
def lowT (K : PySem.W.Frag) (t : TT3) : TT := fun s H Q => ∃ (G Z : Hp) (ks : List T) (vs : List V) (r : Rho) (Q3 : Bool → Rho → Prop), S3 K G Z H ks vs r s ∧ t r Q3 ∧ ∀ Z' H' b r', Gr G Z Z' → S3 K G Z' H' ks vs r' s → Q3 b r' → Q b H'
def lowG (K : PySem.W.Frag) (js : List Nat) (g : TG3) : TG := fun v s H Q => ∃ (G Z : Hp) (ks : List T) (vs : List V) (r : Rho) (x : T) (Q3 : Rho → Prop), S3 K G Z H (x :: ks) (v :: vs) r s ∧ g x r Q3 ∧
  ∀ Z' H' r' s', Gr G Z Z' → S3 K G Z' H' ks vs r' s' → s'.length = s.length → (∀ i, i ∉ js → s'[i]? = s[i]?) → Q3 r' → Q s' H'
section
variable {X : Cx} {e : Expr} {t : TE3} {tt : TT3} {g : TG3} {js : List Nat}
theorem P3.low (h : P3 X e t) : PE X e (lowP X.K t) := by
  obtain ⟨te, he, hs⟩ := h.ex
  exact ⟨fun pins s σ H Q I ⟨G, Z, ks, vs, r, Q3, st, ht, k⟩ => he.run pins s σ H Q I (hs G Z H ks vs r σ Q Q3 st ht k)⟩
theorem T3.low (h : T3 X e tt) : PT X e (lowT X.K tt) := by
  obtain ⟨te, he, hs⟩ := h.ex
  exact ⟨fun pins s σ H Q I ⟨G, Z, ks, vs, r, Q3, st, ht, k⟩ => he.run pins s σ H Q I (hs G Z H ks vs r σ Q Q3 st ht k)⟩
theorem G3.low (h : G3 X e js g) : PG X e (lowG X.K js g) := by
  obtain ⟨te, he, hs⟩ := h.ex
  exact ⟨fun pins s σ H v u Q I rv ⟨G, Z, ks, vs, r, x, Q3, st, ht, k⟩ => he.run pins s σ H v u Q I rv (hs G Z H ks vs r σ x v Q Q3 st ht k)⟩
end
/-- the conditions of a comprehension -/
structure Ts3 (X : Cx) (ifs : List Expr) (t : TT3) : Prop where
  pt : PTs X ifs (lowT X.K t)
def xYes : TT3 := fun r Q => Q true r
theorem ts3_nil {X : Cx} : Ts3 X [] xYes := ⟨⟨fun pins s σ H Q I ⟨G, Z, ks, vs, r, Q3, st, ht, k⟩ => pts_nil.run pins s σ H Q I (k Z H true r (Gr.refl _ _) st ht)⟩⟩
theorem ts3_one {X : Cx} {c : Expr} {t : TT3} (h : T3 X c t) : Ts3 X [c] t := ⟨pts_one h.low⟩
/-! ### comprehensions -/
def wp (r : Rho) : List Nat → Rho
  | [] => r
  | j :: js => (wp r js).set j none
theorem S3.wipes {K : PySem.W.Frag} {G Z H : Hp} {ks : List T} {vs : List V} {r : Rho} {s : L2.St} (h : S3 K G Z H ks vs r s) : ∀ js, S3 K G Z H ks vs (wp r js) (L2.wipe s js)
  | [] => h
  | j :: js => (h.wipes js).wipe
theorem S3.unwipe {K : PySem.W.Frag} {G Z H : Hp} {ks : List T} {vs : List V} {r : Rho} {s : L2.St} {js : List Nat} (h : S3 K G Z H ks vs r (L2.wipe s js)) : S3 K G Z H ks vs r s :=
  ⟨h.zh, h.gh, h.one, h.ow, h.stk, fun i t e => by
    obtain ⟨v, ev, q⟩ := h.slot i t e
    exact ⟨v, (wipe_some ev).1, q⟩, h.len.trans (wipe_length s js)⟩
theorem wipe_same {s s' : L2.St} : ∀ {js : List Nat}, s'.length = s.length → (∀ i, i ∉ js → s'[i]? = s[i]?) → L2.wipe s' js = L2.wipe s js := by
  intro js hl h
  refine List.ext_getElem? fun i => ?_
  by_cases hi : i ∈ js
  · have z : ∀ (s : L2.St) (js : List Nat), i ∈ js → (L2.wipe s js)[i]? = if i < s.length then some none else none := by
      intro s js
      induction js with
      | nil => intro h; simp at h
      | cons j js ih =>
        intro h
        show ((L2.wipe s js).set j none)[i]? = _
        by_cases e : j = i
        · subst e
          by_cases hl : j < s.length
          · rw [List.getElem?_set_self (by rw [wipe_length]; exact hl), if_pos hl]
          · rw [List.getElem?_eq_none (by rw [List.length_set, wipe_length]; omega), if_neg hl]
        · rw [List.getElem?_set_ne e]
          rcases List.mem_cons.mp h with q | q
          · exact absurd q.symm e
          · exact ih q
    rw [z s' js hi, z s js hi, hl]
  · rw [wipe_out hi, wipe_out hi]
    exact h i hi
def xLc (w : TI3) (g : TG3) (tt : TT3) (te : TE3) (js : List Nat) : TE3 := fun r Q => w r fun items r1 => ∀ p, ∃ W : Nat → List T → Rho → Prop, W 0 [] (wp r1 js) ∧
  (∀ i x acc r, items[i]? = some x → W i acc r → g (.d x) r fun r2 => tt r2 fun b r3 => (b = true → te r3 fun y r4 => acc.length < sizeLine ∧ W (i + 1) (acc ++ [y]) (wp r4 js)) ∧ (b = false → W (i + 1) acc (wp r3 js))) ∧
  ∀ acc r, W items.length acc r → Q (.own p acc) r
section
variable {X : Cx} {elt tg iter : Expr} {ifs : List Expr} {scope : Scope} {own : List (Str × Nat)} {pos : Pos} {w : TI3} {g : TG3} {tt : TT3} {te : TE3} {js : List Nat}
theorem lc_run {wi : TI} (si : ∀ (G Z H : Hp) (ks : List T) (vs : List V) (r : Rho) (s : L2.St) (R : It → Hp → Prop) (Q3 : List PyData → Rho → Prop), S3 X.K G Z H ks vs r s → w r Q3 →
    (∀ Z' H' J items r', Gr G Z Z' → S3 X.K G Z' H' ks vs r' s → Walks X.K Z' J items → Q3 items r' → R J H') → wi s H R) (hj : ∀ j ∈ js, j ∈ own.map (·.2)) {G Z H : Hp} {ks : List T} {vs : List V} {r : Rho} {s : L2.St} {Q : VK} {Q3 : T → Rho → Prop} (st : S3 X.K G Z H ks vs r s) (ht : xLc w g tt te (own.map (·.2)) r Q3)
    (k : ∀ Z' H' x v r', Gr G Z Z' → S3 X.K G Z' H' (x :: ks) (v :: vs) r' s → Q3 x r' → Q v H') : tLc wi (lowG X.K js g) (lowT X.K tt) (lowP X.K te) (own.map (·.2)) s H Q := by
  refine si G Z H ks vs r s _ _ st ht fun Z0 H0 J items r0 g0 st0 wk q D hD => ?_
  obtain ⟨W, w0, turn, done⟩ := q D
  have stw : S3 X.K G Z0 H0 ks vs (wp r0 (own.map (·.2))) (L2.wipe s (own.map (·.2))) := st0.wipes _
  have st1 : S3 X.K G Z0 (upd H0 D (.lst [])) (.own D [] :: ks) (.ref D :: vs) (wp r0 (own.map (·.2))) (L2.wipe s (own.map (·.2))) := S3.mkOwn (l := []) (xs := []) stw rfl hD
  refine ⟨fun i m H => m = items.length - i ∧ i ≤ items.length ∧ ∃ Z' r acc, Gr G Z0 Z' ∧ S3 X.K G Z' H (.own D acc :: ks) (.ref D :: vs) r (L2.wipe s (own.map (·.2))) ∧ W i acc r, ⟨_, rfl, Nat.zero_le _, Z0, _, [], Gr.refl _ _, st1, w0⟩, ?_⟩
  rintro i m H1 ⟨rfl, hi, Z1, r1, acc, g1, st1, w1⟩
  by_cases hlt : i < items.length
  · obtain ⟨go, y⟩ := (wk Z1 H1 i g1.sub st1.zh).1 items[i] (List.getElem?_eq_getElem hlt)
    refine .inr ⟨go, fun H' => ∃ Z' r acc, Gr G Z0 Z' ∧ S3 X.K G Z' H' (.own D acc :: ks) (.ref D :: vs) r (L2.wipe s (own.map (·.2))) ∧ W (i + 1) acc r, fun H' h => ⟨items.length - (i + 1), by omega, rfl, hlt, h⟩, fun x H' yx => ?_⟩
    obtain ⟨Z2, g2, st2⟩ := (y x H' yx).st st1
    refine ⟨G, Z2, _, _, r1, _, _, st2, turn i _ acc r1 (List.getElem?_eq_getElem hlt) w1, fun Z3 H3 r3 s3 g3 st3 l3 e3 q3 => ?_⟩
    have ew : wipe s3 (own.map (·.2)) = wipe s (own.map (·.2)) := by
      have : wipe s3 (own.map (·.2)) = wipe (L2.wipe s (own.map (·.2))) (own.map (·.2)) := wipe_same l3 fun i hi => e3 i fun z => hi (hj i z)
      rw [this]
      exact wipe_same (wipe_length _ _) fun i hi => wipe_out hi
    have gg := (g1.trans g2).trans g3
    refine ⟨ew, G, Z3, _, _, r3, _, st3, q3, fun Z4 H4 b r4 g4 st4 q4 => ?_⟩
    cases b with
    | false =>
      have q5 : W (i + 1) acc (wp r4 (own.map (·.2))) := q4.2 rfl
      have st5 := st4.wipes (own.map (·.2))
      rw [ew] at st5
      exact ⟨Z4, _, acc, gg.trans g4, st5, q5⟩
    | true =>
      refine ⟨G, Z4, _, _, r4, _, st4, q4.1 rfl, fun Z5 H5 y v r5 g5 st5 q5 => ?_⟩
      obtain ⟨xs, e1, e2, e3', e4, _⟩ := st5.ownAt
      have st6 := st5.write (l' := acc ++ [y]) (xs' := xs ++ [v]) (rts_snoc e2 e3') (fun b => by rw [cts_append]; simp only [cts]; omega)
      have st7 := st6.wipes (own.map (·.2))
      rw [ew] at st7
      exact ⟨xs, e1, by rw [← rts_len e2]; exact q5.1, Z5, _, _, (gg.trans g4).trans g5, st7, q5.2⟩
  · have e : i = items.length := by omega
    subst e
    exact .inl ⟨(wk Z1 H1 _ g1.sub st1.zh).2 (Nat.le_refl _), k Z1 H1 _ _ r1 (g0.trans g1) st1.unwipe (done acc r1 w1)⟩
theorem p3_lc (hc : X.calm = true) (hN : X.N.Nodup) (hi : I3 X tg iter w) (ok : BlkOk X.N X.env.scope scope own) (hj : ∀ j ∈ js, j ∈ own.map (·.2))
    (hg : ∀ (s : Shared) (H : Hp) (C : Addr) (cl : List (Str × Addr)) (fp : List Addr), G3 (X.blk s H scope (compEnvC scope cl C X.env) fp) tg js g) (ht : ∀ (s : Shared) (H : Hp) (C : Addr) (cl : List (Str × Addr)) (fp : List Addr), Ts3 (X.blk s H scope (compEnvC scope cl C X.env) fp) ifs tt)
    (he : ∀ (s : Shared) (H : Hp) (C : Addr) (cl : List (Str × Addr)) (fp : List Addr), P3 (X.blk s H scope (compEnvC scope cl C X.env) fp) elt te) (hs : ∀ x, foldedSetIterable iter X.env x = pure x := by intro _; rfl) :
    P3 X (.ListComp elt [⟨tg, iter, ifs, 0⟩] scope pos) (xLc w g tt te (own.map (·.2))) := by
  obtain ⟨wi, ei, si⟩ := hi.ex
  exact ⟨_, pe_lc hc hN ei ok (fun s H C cl fp => (hg s H C cl fp).low) (fun s H C cl fp => (ht s H C cl fp).pt) (fun s H C cl fp => (he s H C cl fp).low) hs, fun G Z H ks vs r s Q Q3 st h k => lc_run si hj st h k⟩
/-- name = [..] on one line, the name a local -/
theorem m3_setLc (i : Nat) {y : Str} {py spos : Pos} (hc : X.calm = true) (hN : X.N.Nodup) (hi : I3 X tg iter w) (ok : BlkOk X.N X.env.scope scope own) (hj : ∀ j ∈ js, j ∈ own.map (·.2))
    (hg : ∀ (s : Shared) (H : Hp) (C : Addr) (cl : List (Str × Addr)) (fp : List Addr), G3 (X.blk s H scope (compEnvC scope cl C X.env) fp) tg js g) (ht : ∀ (s : Shared) (H : Hp) (C : Addr) (cl : List (Str × Addr)) (fp : List Addr), Ts3 (X.blk s H scope (compEnvC scope cl C X.env) fp) ifs tt)
    (he : ∀ (s : Shared) (H : Hp) (C : Addr) (cl : List (Str × Addr)) (fp : List Addr), P3 (X.blk s H scope (compEnvC scope cl C X.env) fp) elt te) (hy : X.N[i]? = some y := by rfl) (hyl : X.env.scope.names.lookup y = some .local := by rfl)
    (hsw : swapsWith (.ListComp elt [⟨tg, iter, ifs, 0⟩] scope pos) (some (.Name y py)) spos.line X.env = pure true := by exact sw_true rfl rfl rfl (by decide +kernel)) (hs : ∀ x, foldedSetIterable iter X.env x = pure x := by intro _; rfl) :
    M3 X (.Assign [.Name y py] (.ListComp elt [⟨tg, iter, ifs, 0⟩] scope pos) spos) (xAsg (xLc w g tt te (own.map (·.2))) (xGName i)) := by
  refine ⟨fun W tk => ?_⟩
  obtain ⟨wi, ei, si⟩ := hi.ex
  exact ⟨_, ps_setLc hc hN hy hyl hsw ei ok (fun s H C cl fp => (hg s H C cl fp).low) (fun s H C cl fp => (ht s H C cl fp).pt) (fun s H C cl fp => (he s H C cl fp).low) hs, fun G Z H r s D D3 st h im =>
    lc_run si hj st h fun Z1 H1 x v r1 g1 st1 q => im.nx Z1 H1 _ _ g1 st1.store q⟩
end
/-! ### what is walked -/
theorem walks_L {K : PySem.W.Frag} {Z : Hp} {a : Addr} {xs : List V} {l : List PyData} (hs : SqL K Z a xs) (hd : DqAll K Z xs l) : Walks K Z (Itl K a) l := fun Z' H i z zh => by
  have hs2 : SqL K H a xs := zh.L (z.L hs)
  refine ⟨fun x hx => ?_, fun hi => ⟨xs, hs2, by rw [← dpa_len hd]; exact hi⟩⟩
  obtain ⟨v, ev, dv⟩ := dpa_get hd hx
  refine ⟨⟨xs, v, hs2, ev⟩, fun u H' y => .inl ⟨y.1, ?_⟩⟩
  have := y.2 xs hs2
  rw [ev] at this
  cases this
  exact dp_mono z x v dv
theorem walks_T {K : PySem.W.Frag} {Z : Hp} {a : Addr} {xs : List V} {l : List PyData} (hs : SqT K Z a xs) (hd : DqAll K Z xs l) : Walks K Z (Itt K a) l := fun Z' H i z zh => by
  have hs2 : SqT K H a xs := zh.T (z.T hs)
  refine ⟨fun x hx => ?_, fun hi => ⟨xs, hs2, by rw [← dpa_len hd]; exact hi⟩⟩
  obtain ⟨v, ev, dv⟩ := dpa_get hd hx
  refine ⟨⟨xs, v, hs2, ev⟩, fun u H' y => .inl ⟨y.1, ?_⟩⟩
  have := y.2 xs hs2
  rw [ev] at this
  cases this
  exact dp_mono z x v dv
/-- lo, lo + 1, .., n of them -/
def rangeI (lo : Int) (n : Nat) : List PyData := (List.range n).map fun i => PyData.int (lo + (i : Nat))
theorem rangeI_len (lo : Int) (n : Nat) : (rangeI lo n).length = n := by unfold rangeI; rw [List.length_map, List.length_range]
theorem rangeI_get {lo : Int} {n i : Nat} {x : PyData} (h : (rangeI lo n)[i]? = some x) : i < n ∧ x = .int (lo + (i : Nat)) := by
  unfold rangeI at h
  rw [List.getElem?_map] at h
  by_cases hi : i < n
  · rw [List.getElem?_range hi] at h
    exact ⟨hi, (Option.some.inj h).symm⟩
  · rw [List.getElem?_eq_none (by rw [List.length_range]; omega)] at h
    cases h
theorem walks_R {K : PySem.W.Frag} {Z : Hp} {lo : Int} {n : Nat} : Walks K Z (Itr lo n) (rangeI lo n) := fun Z' H i z zh => by
  refine ⟨fun x hx => ?_, fun hi => by rw [rangeI_len] at hi; exact hi⟩
  obtain ⟨h1, rfl⟩ := rangeI_get hx
  exact ⟨h1, fun v H' y => .inl ⟨y.1, by rw [y.2]; exact .int _⟩⟩
def rangeD (hi : Int) (n : Nat) : List PyData := (List.range n).map fun i => PyData.int (hi - (i : Nat))
theorem rangeD_len (lo : Int) (n : Nat) : (rangeD lo n).length = n := by unfold rangeD; rw [List.length_map, List.length_range]
theorem rangeD_get {lo : Int} {n i : Nat} {x : PyData} (h : (rangeD lo n)[i]? = some x) : i < n ∧ x = .int (lo - (i : Nat)) := by
  unfold rangeD at h
  rw [List.getElem?_map] at h
  by_cases hi : i < n
  · rw [List.getElem?_range hi] at h
    exact ⟨hi, (Option.some.inj h).symm⟩
  · rw [List.getElem?_eq_none (by rw [List.length_range]; omega)] at h
    cases h
theorem walks_D {K : PySem.W.Frag} {Z : Hp} {lo : Int} {n : Nat} : Walks K Z (Itc lo (-1) n) (rangeD lo n) := fun Z' H i z zh => by
  refine ⟨fun x hx => ?_, fun hi => by rw [rangeD_len] at hi; exact hi⟩
  obtain ⟨h1, rfl⟩ := rangeD_get hx
  refine ⟨h1, fun v H' y => .inl ⟨y.1, ?_⟩⟩
  rw [y.2, show lo + (i : Int) * -1 = lo - (i : Int) by omega]
  exact .int _
section
variable {X : Cx} {e a b c : Expr} {tg : Expr} {t ta tb tc : TE3} {pos p : Pos}
/-- over a list or a tuple -/
def iSeq (K : PySem.W.Frag) (tl : TE) : TI := fun σ H R => tl σ H fun x H1 => ∃ a, x = .ref a ∧ (((∃ xs, SqL K H1 a xs) ∧ R (Itl K a) H1) ∨ ((∃ xs, SqT K H1 a xs) ∧ R (Itt K a) H1))
theorem pi_seq {l : Expr} {tl : TE} (hl : PE X l tl) : PI X tg l (iSeq X.K tl) := by
  refine ⟨fun pins s σ H R I h => ?_⟩
  refine thn (hl.run pins s σ H _ I h) fun v s1 ⟨x, H1, I1, r1, q1⟩ => ?_
  obtain ⟨a, e, ⟨⟨xs, hq⟩, q⟩ | ⟨⟨xs, hq⟩, q⟩⟩ := q1
  · subst e
    cases r1
    obtain ⟨its, rv, p, hz⟩ := I1.list hq
    refine wpAny_pyIter_list p.isList ?_
    refine ⟨s1.heap.objs.size, [s1.heap.objs.size], _, _, H1, rfl, I1.kept (t' := s1.toks) fun b o e => Heap.get?_push_of_some _ e, turn_list a _, ⟨_, Heap.get?_push_size _ rfl, rfl, rfl⟩, fun b hb => ?_, q⟩
    have e : b = s1.heap.objs.size := by simpa using hb
    subst e
    exact I1.fpOk (Nat.le_refl _) (I1.hok.fresh (Nat.le_refl _))
  · subst e
    cases r1
    obtain ⟨its, rv, p, hz⟩ := I1.tuple hq
    refine wpAny_pyIter_tuple (show s1.heap.IsTuple a its.toArray from p) ?_
    refine ⟨s1.heap.objs.size, [s1.heap.objs.size], _, _, H1, rfl, I1.kept (t' := s1.toks) fun b o e => Heap.get?_push_of_some _ e, turn_tuple a _, ⟨_, Heap.get?_push_size _ rfl, rfl, rfl⟩, fun b hb => ?_, q⟩
    have e : b = s1.heap.objs.size := by simpa using hb
    subst e
    exact I1.fpOk (Nat.le_refl _) (I1.hok.fresh (Nat.le_refl _))
def xSeqI (t : TE3) : TI3 := fun r R => t r fun x r' => match x with | .d (.list l) => R l r' | .d (.tuple l) => R l r' | .sc _ ns => R (ns.map PyData.int) r' | _ => False
theorem i3_seq (h : R3 X e t) : I3 X tg e (xSeqI t) := by
  obtain ⟨te, ee, se⟩ := h.ex
  refine ⟨_, pi_seq ee, fun G Z H ks vs r s R Q3 st ht k => se G Z H ks vs r s _ _ st ht fun Z1 H1 x v r1 g1 st1 pv q => ?_⟩
  split at q
  · cases (show Dq X.K Z1 v (.list _) from pv) with
    | lst hs ha => exact ⟨_, rfl, .inl ⟨⟨_, SqL.of (st1.zh _ _ hs)⟩, k Z1 H1 _ _ r1 g1 st1 (walks_L (SqL.of hs) ha) q⟩⟩
  · cases (show Dq X.K Z1 v (.tuple _) from pv) with
    | tup hs ha => exact ⟨_, rfl, .inr ⟨⟨_, SqT.of (st1.zh _ _ hs)⟩, k Z1 H1 _ _ r1 g1 st1 (walks_T (SqT.of hs) ha) q⟩⟩
  · obtain ⟨rfl, hs⟩ := pv
    exact ⟨_, rfl, .inl ⟨⟨_, st1.zh.L hs⟩, k Z1 H1 _ _ r1 g1 st1 (walks_L hs (dqa_ints _)) q⟩⟩
  · exact q.elim
def xR1 (t : TE3) : TI3 := fun r R => t r fun x r' => asI x fun j => j < 2 ^ 62 ∧ -(2 ^ 62) ≤ j ∧ R (rangeI 0 j.toNat) r'
theorem i3_range1 (hg : Gl X "range") (hm : X.mg "range" = none) (ha : R3 X a ta) (hs : starEach [a] X.env = [(false, eval a X.env)] := by rfl) : I3 X tg (.Call (.Name "range" p) [a] [] pos) (xR1 ta) := by
  obtain ⟨te, ee, se⟩ := ha.ex
  refine ⟨_, pi_range1 hg hm (pa_cons ee pa_nil hs) hs, fun G Z H ks vs r s R Q3 st ht k => se G Z H ks vs r s _ _ st ht fun Z1 H1 x v r1 g1 st1 pv q => ?_⟩
  obtain ⟨j, rfl, h1, h2, q⟩ := asI_of q
  exact ⟨j, by rw [pv.int], h2, h1, k Z1 H1 _ _ r1 g1 st1 walks_R q⟩
def xR2 (ta tb : TE3) : TI3 := fun r R => ta r fun x r1 => tb r1 fun y r2 => asI x fun i => asI y fun j => (-(2 ^ 62) ≤ i ∧ i < 2 ^ 62 ∧ -(2 ^ 62) ≤ j ∧ j < 2 ^ 62) ∧ R (rangeI i (j - i).toNat) r2
theorem i3_range2 (hg : Gl X "range") (hm : X.mg "range" = none) (ha : R3 X a ta) (hb : R3 X b tb) (hs : starEach [a, b] X.env = [(false, eval a X.env), (false, eval b X.env)] := by rfl) (hs2 : starEach [b] X.env = [(false, eval b X.env)] := by rfl)
    (he : starEach [a, b] X.env = (false, eval a X.env) :: starEach [b] X.env := by rfl) : I3 X tg (.Call (.Name "range" p) [a, b] [] pos) (xR2 ta tb) := by
  obtain ⟨te, ee, se⟩ := ha.ex
  obtain ⟨tf, ef, sf⟩ := hb.ex
  refine ⟨_, pi_range2 hg hm (pa_cons ee (pa_cons ef pa_nil hs2) he) hs hs2, fun G Z H ks vs r s R Q3 st ht k => se G Z H ks vs r s _ _ st ht fun Z1 H1 x v r1 g1 st1 pv q => sf G Z1 H1 ks vs r1 s _ _ st1 q fun Z2 H2 y u r2 g2 st2 pv2 q => ?_⟩
  obtain ⟨i, rfl, q1⟩ := asI_of q
  obtain ⟨j, rfl, hb, q2⟩ := asI_of q1
  exact ⟨i, j, by rw [pv.int, pv2.int], hb, k Z2 H2 _ _ r2 (g1.trans g2) st2 walks_R q2⟩
/-- range(a, b, -1) -/
def xR3 (ta tb tc : TE3) : TI3 := fun r R => ta r fun x r1 => tb r1 fun y r2 => tc r2 fun z r3 => asI x fun i => asI y fun j => asI z fun l => l = -1 ∧ (-(2 ^ 62) ≤ i ∧ i < 2 ^ 62 ∧ -(2 ^ 62) ≤ j ∧ j < 2 ^ 62) ∧ R (rangeD i (i - j).toNat) r3
theorem i3_range3 (hg : Gl X "range") (hm : X.mg "range" = none) (ha : R3 X a ta) (hb : R3 X b tb) (hc : R3 X c tc) (hs : starEach [a, b, c] X.env = (false, eval a X.env) :: starEach [b, c] X.env := by rfl) (hs2 : starEach [b, c] X.env = (false, eval b X.env) :: starEach [c] X.env := by rfl)
    (hs3 : starEach [c] X.env = (false, eval c X.env) :: starEach [] X.env := by rfl) (hpl : (backTo pos (starEach [b, c] X.env)).any (·.1) = false := by rfl) : I3 X tg (.Call (.Name "range" p) [a, b, c] [] pos) (xR3 ta tb tc) := by
  obtain ⟨te, ee, se⟩ := ha.ex
  obtain ⟨tf, ef, sf⟩ := hb.ex
  obtain ⟨tg', eg, sg⟩ := hc.ex
  refine ⟨_, pi_range3 hg hm (pa_cons ee (pa_cons ef (pa_cons eg pa_nil hs3) hs2) hs) hs hpl, fun G Z H ks vs r s R Q3 st ht k => se G Z H ks vs r s _ _ st ht fun Z1 H1 x v r1 g1 st1 pv q => sf G Z1 H1 ks vs r1 s _ _ st1 q fun Z2 H2 y u r2 g2 st2 pv2 q => sg G Z2 H2 ks vs r2 s _ _ st2 q fun Z3 H3 z u3 r3 g3 st3 pv3 q => ?_⟩
  obtain ⟨i, rfl, q1⟩ := asI_of q
  obtain ⟨j, rfl, q2⟩ := asI_of q1
  obtain ⟨l, rfl, rfl, ⟨b1, b2, b3, b4⟩, q3⟩ := asI_of q2
  exact ⟨i, j, -1, _, by rw [pv.int, pv2.int, pv3.int], RgC.neg b1 b2 b3 b4, k Z3 H3 _ _ r3 ((g1.trans g2).trans g3) st3 walks_D q3⟩
/-- zip of two lists or of two tuples -/
def zipD (l m : List PyData) : List PyData := List.zipWith (fun x y => PyData.tuple [x, y]) l m
end
end L3
namespace L3
open PySem PySem.Spec PyProof.Rows L2
/-! ### methods of a list of one's own, at a name -/
section
variable {X : Cx} {e : Expr} {t : TE3} {pos p apos : Pos}
/-- x.append(e) -/
def xApp (i : Nat) (t : TE3) : TE3 := fun r Q => match r[i]? with
  | some (some (.own _ _)) => t r fun y r1 => (match r1[i]? with
    | some (some (.own a l)) => l.length < sizeLine ∧ Q (.d .none) (r1.set i (some (.own a (l ++ [y]))))
    | _ => False)
  | _ => False
theorem p3_append (i : Nat) {x : Str} (he : P3 X e t) (hN : X.N[i]? = some x := by rfl) (hv : Vis X.env.scope x := by first | exact Or.inl rfl | exact Or.inr (Or.inl rfl) | exact Or.inr (Or.inr rfl)) (hd : (x == ("__debug__" : Str)) = false := by decide)
    (hcd : (x == ("__classdict__" : Str)) = false := by decide) (hbase : attributeBase (.Name x p) "append" X.env (eval (.Name x p) X.env) = eval (.Name x p) X.env := by rfl) (hline : (apos.endLine == pos.line) = true := by rfl)
    (hfew : ((backTo pos (starEach [e] X.env)).all (fun x => !x.1) && (backToKw pos (keywordEach [] X.env)).all (fun x => x.1.isSome) && decide ([e].length + ([] : List Keyword).length + (if ([] : List Keyword).isEmpty then 0 else 1) < 30)) = true := by rfl)
    (hs : starEach [e] X.env = (false, eval e X.env) :: starEach [] X.env := by rfl) (hpl : (backTo pos (starEach [] X.env)).any (·.1) = false := by rfl) :
    P3 X (.Call (.Attribute (.Name x p) "append" apos) [e] [] pos) (xApp i t) := by
  obtain ⟨te, ee, se⟩ := he.ex
  refine ⟨_, pe_bm PySem.F.plainAttrs_list PySem.F.slot_list_append PySem.F.type_list_append mt_append (pe_var hN hv hd hcd) (pa_cons ee pa_nil hs) hbase hfew hline hs hpl, fun G Z H ks vs r s Q Q3 st ht k => ?_⟩
  unfold xApp at ht
  split at ht
  · rename_i a0 l0 hr0
    obtain ⟨w, ew, rt0⟩ := st.slot i _ hr0
    cases rt0 with
    | own e1 e2 =>
      refine ⟨_, ew, .inl ⟨rfl, _, SqL.of e1⟩, se G Z H ks vs r s _ _ st ht fun Z1 H1 y v r1 g1 st1 q => ?_⟩
      split at q
      · rename_i a l hr
        obtain ⟨w2, ew2, st2⟩ := st1.take hr
        rw [ew] at ew2
        cases ew2
        have rt := st2.top
        cases rt with
        | @own _ _ xs k1 k2 =>
          have st3 := S3.mid' (l := [y]) (xs := [v]) rfl st2
          have rx : RT X.K Z1 H1 y v := by cases st3.stk with | cons q _ => exact q
          have st4 := st3.write (l' := l ++ [y]) (xs' := xs ++ [v]) (rts_snoc k2 rx) (fun b => by rw [cts_append]; simp only [cts]; omega)
          have st5 := st4.back (i := i) (by rw [List.length_set]; exact (List.getElem?_eq_some_iff.mp hr).1) ew
          rw [List.set_set] at st5
          exact ⟨_, xs, v, rfl, rfl, k1, by rw [← rts_len k2]; exact q.1, k _ _ _ _ _ g1 (st5.pushD .non) q.2⟩
      · exact q.elim
  · exact ht.elim
end
/-! ### a def's promise by its body -/
def start3 (N : List Str) (ts : List T) : Rho := ts.map some ++ List.replicate (N.length - ts.length) none
/-- the arguments as they stand behind the body: lists of one's own may have changed -/
def finOk : List T → Rho → Prop
  | [], _ => True
  | .own a _ :: ts, some (.own b _) :: r => a = b ∧ finOk ts r
  | .d _ :: ts, _ :: r => finOk ts r
  | .v _ :: ts, _ :: r => finOk ts r
  | .sc _ _ :: ts, _ :: r => finOk ts r
  | _, _ => False
def finF : List T → Rho → List T
  | .own _ _ :: ts, some (.own b l) :: r => .own b l :: finF ts r
  | .d x :: ts, _ :: r => .d x :: finF ts r
  | .v x :: ts, _ :: r => .v x :: finF ts r
  | .sc a ns :: ts, _ :: r => .sc a ns :: finF ts r
  | _, _ => []
theorem cto_fin (a : Addr) : ∀ (ts : List T) (r : Rho), finOk ts r → cts a (finF ts r) ≤ cto a r
  | [], r, _ => by simp [finF, cts]
  | .own b l :: ts, [], h => by simp [finOk] at h
  | .own b l :: ts, none :: r, h => by simp [finOk] at h
  | .own b l :: ts, some (.own c m) :: r, h => by
    have h2 : b = c ∧ finOk ts r := h
    have := cto_fin a ts r h2.2
    simp only [finF, cts, cto]
    omega
  | .own b l :: ts, some (.d _) :: r, h => by simp [finOk] at h
  | .own b l :: ts, some (.v _) :: r, h => by simp [finOk] at h
  | .own b l :: ts, some (.sc _ _) :: r, h => by simp [finOk] at h
  | .own b l :: ts, some (.tp _) :: r, h => by simp [finOk] at h
  | .d x :: ts, [], h => by simp [finOk] at h
  | .v x :: ts, [], h => by simp [finOk] at h
  | .sc b ns :: ts, [], h => by simp [finOk] at h
  | .d x :: ts, q :: r, h => by
    have := cto_fin a ts r h
    rw [cto_cons]
    simp only [finF, cts, ct]
    omega
  | .v x :: ts, q :: r, h => by
    have := cto_fin a ts r h
    rw [cto_cons]
    simp only [finF, cts, ct]
    omega
  | .sc b ns :: ts, q :: r, h => by
    have := cto_fin a ts r h
    rw [cto_cons]
    simp only [finF, cts, ct]
    omega
  | .tp l :: ts, r, h => by cases r <;> simp [finOk] at h
theorem rts_fin {K : PySem.W.Frag} {Z Z' H H' : Hp} (z : Sub Z Z') : ∀ (ts : List T) (vs : List V) (r : Rho) (s : L2.St), RTs K Z H ts vs → finOk ts r → r.length = s.length → (∀ (i : Nat) (t : T), r[i]? = some (some t) → ∃ v, s[i]? = some (some v) ∧ RT K Z' H' t v) → RTs K Z' H' (finF ts r) vs
  | [], _, r, s, .nil, _, _, _ => .nil
  | t :: ts, _, [], s, .cons p q, h, _, _ => by cases t <;> simp [finOk] at h
  | t :: ts, _, x :: r, [], .cons p q, h, hl, _ => by simp at hl
  | t :: ts, v :: vs, x :: r, y :: s, .cons p q, h, hl, hs => by
    have tail : finOk ts r → RTs K Z' H' (finF ts r) vs := fun h => rts_fin z ts _ r s q h (by simpa using hl) fun i t e => by
      have := hs (i + 1) t (by simpa using e)
      simpa using this
    cases t with
    | d x0 =>
      cases p with
      | d p => exact .cons (.d (dp_mono z _ _ p)) (tail h)
    | v x0 => cases p; exact .cons .v (tail h)
    | sc a ns =>
      cases p with
      | sc p => exact .cons (.sc (z.L p)) (tail h)
    | tp l => simp [finOk] at h
    | own a l =>
      cases x with
      | none => simp [finOk] at h
      | some t' =>
        cases t' with
        | own b m =>
          have h2 : a = b ∧ finOk ts r := h
          obtain ⟨rfl, h3⟩ := h2
          obtain ⟨w, e1, rt⟩ := hs 0 (.own a m) rfl
          have e2 : y = some w := by simpa using e1
          cases p with
          | own p1 p2 =>
            cases rt with
            | own q1 q2 => exact .cons (.own q1 q2) (tail h3)
        | d _ => simp [finOk] at h
        | v _ => simp [finOk] at h
        | sc _ _ => simp [finOk] at h
        | tp _ => simp [finOk] at h
section
variable {P : Program} {w : World} {K : PySem.W.Frag} {mg : Str → Option Value} {base : Heap}
theorem start_st {G Z H : Hp} {ts : List T} {vs : List V} {N : List Str} (h : S3 K G Z H ts vs [] []) : S3 K G Z H [] [] (start3 N ts) (L2.start N vs) := by
  have hl := rts_len h.stk
  have cs : ∀ (a : Addr) (l : List T) (n : Nat), cto a (l.map some ++ List.replicate n none) = cts a l := by
    intro a l n
    induction l with
    | nil =>
      induction n with
      | zero => rfl
      | succ n ih => rw [List.map_nil, List.nil_append, List.replicate_succ]; show cto a (List.replicate n none) = _; simpa using ih
    | cons t l ih => simp only [List.map_cons, List.cons_append, cto, cts, ih]
  refine ⟨h.zh, h.gh, fun a => ?_, fun a c => h.ow a ?_, .nil, fun i t e => ?_, ?_⟩
  · have := h.one a
    unfold start3
    rw [cs]
    simp only [cts, cto] at *
    omega
  · unfold start3 at c
    rw [cs] at c
    simp only [cts, cto] at *
    omega
  · unfold start3 at e
    unfold L2.start
    by_cases hi : i < ts.length
    · rw [List.getElem?_append_left (by rw [List.length_map]; exact hi), List.getElem?_map] at e
      cases q : ts[i]? with
      | none => rw [q] at e; cases e
      | some t' =>
        rw [q] at e
        cases e
        obtain ⟨v, ev, rt⟩ := rts_get h.stk q
        exact ⟨v, by rw [List.getElem?_append_left (by rw [List.length_map, ← hl]; exact hi), List.getElem?_map, ev]; rfl, rt⟩
    · rw [List.getElem?_append_right (by rw [List.length_map]; omega), List.getElem?_replicate] at e
      split at e <;> cases e
  · unfold start3 L2.start
    rw [List.length_append, List.length_append, List.length_map, List.length_map, List.length_replicate, List.length_replicate, hl]
/-- THE RULE for a def that raises nothing: its body by values -/
theorem ok3 {x qual : Str} {st : Stmt} {f : Addr} {fd : FuncData} {N ps : List Str} {k : Nat} {sp : Sp3} (F : Fun K x qual st f fd) (S : FnScope N ps (defScope st)) (len : ∀ ts Q E, sp ts Q E → ts.length = ps.length)
    (hbody : ∀ (cdv : Value) (A : Around) (outer : List Env) (s : Shared) (H : Hp) (E : XK), Room k (A.deeper (envOfC qual (defScope st) s.heap.objs.size f cdv)) →
      ∃ t, B3 (cxOf CX0 P w K mg base N qual (defScope st) f cdv A outer s H E).nox (defBody st) t ∧ ∀ ts Q3 E3, sp ts Q3 E3 → t { nx := fun r => finOk ts r ∧ Q3 (.d .none) (finF ts r), rt := fun x r => finOk ts r ∧ Q3 x (finF ts r) } (start3 N ts)) :
    FnOk P w K mg base CX0 (k + 1) f fd ps (lift K sp) := by
  refine F.ok S (fun vs H Q E h => ?_) (fun cdv A outer s H vs Q E hr h => ?_)
  · obtain ⟨G, Z, ts, Q3, E3, st, hsp, _⟩ := h
    rw [← rts_len st.stk]
    exact len _ _ _ hsp
  · obtain ⟨G, Z, ts, Q3, E3, st, hsp, hq, _⟩ := h
    obtain ⟨t, hB, ht⟩ := hbody cdv A outer s H E hr
    obtain ⟨te, eb, sb⟩ := hB.ex _ takes0
    have ret : ∀ Z' H' r' s' x v, Gr G Z Z' → S3 K G Z' H' [x] [v] r' s' → (finOk ts r' ∧ Q3 x (finF ts r')) → Q v H' := fun Z' H' r' s' x v g st' q => by
      refine hq Z' H' x v (finF ts r') g ⟨st'.zh, st'.gh, fun a => ?_, fun a c => st'.ow a ?_, .cons st'.top (rts_fin g.sub ts vs r' s' st.stk q.1 st'.len st'.slot), fun i t e => by simp at e, rfl⟩ q.2
      · have h1 := st'.one a
        have h2 := cto_fin a ts r' q.1
        simp only [cts, cto] at *
        omega
      · have h2 := cto_fin a ts r' q.1
        simp only [cts, cto] at *
        omega
    exact ⟨te, eb, sb G Z H _ _ _ _ (start_st st) (ht ts Q3 E3 hsp) ⟨fun Z' H' r' s' g st' q => ret Z' H' r' s' _ _ g (st'.pushD .non) q, fun Z' H' r' s' x v g st' q => ret Z' H' r' s' x v g st' q, fun _ _ _ _ _ _ q => q.elim, fun _ _ _ _ _ _ q => q.elim, fun _ _ _ _ _ _ _ q => q.elim⟩⟩
/-- the law's own promise -/
def spLaw : Sp3 := fun ts Q _ => ∃ a ns, ts = [.sc a ns] ∧ ns.length ≤ 63 ∧ ∀ ts', Q (.d (.bool true)) ts'
theorem spLaw_of (H : Hp) (a : Addr) (ns : List Int) (hl : ns.length ≤ 63) (hS : SqL K H a (ns.map V.int)) : lift K spLaw [.ref a] H (fun v _ => v = .bl true) fun _ _ _ => False := by
  refine ⟨fun _ => none, H, [.sc a ns], fun x _ => x = .d (.bool true), fun _ _ => False, ⟨Sub.refl _, fun a o e => (by cases e), fun b => (by simp [cts, ct, cto]), fun b c => (by simp [cts, ct, cto] at c), .cons (.sc hS) .nil, fun i t e => by simp at e, rfl⟩, ⟨a, ns, rfl, hl, fun _ => rfl⟩, fun Z' H' x v ts' g st q => ?_, fun _ _ _ _ _ _ q => q.elim⟩
  subst q
  have h := st.top
  cases h with
  | d h => cases h; rfl
end
end L3
namespace L3
open PySem PySem.Spec PyProof.Rows L2
/-! ### the short names that the printed bodies use -/
abbrev kAdd : C2 := cI0 fun i j => .int (i + j)
abbrev kSub : C2 := cI0 fun i j => .int (i - j)
abbrev kMul : C2 := cI MulOk fun i j => .int (i * j)
abbrev kDiv : C2 := cI CDivW fun i j => .int (i / j)
abbrev kMod : C2 := cI (fun _ j => 0 < j) fun i j => .int (i % j)
abbrev kPow : C2 := cI CPow fun i j => .int (i ^ j.toNat)
abbrev kLt : C2 := cI0 fun i j => .bool (decide (i < j))
abbrev kLe : C2 := cI0 fun i j => .bool (decide (i ≤ j))
abbrev kGt : C2 := cI0 fun i j => .bool (decide (j < i))
abbrev kGe : C2 := cI0 fun i j => .bool (decide (j ≤ i))
abbrev kMax : C2 := cI0 fun i j => .int (max i j)
abbrev kMin : C2 := cI0 fun i j => .int (min i j)
abbrev kEq : C2 := cEq fun b => b
abbrev kNe : C2 := cEq fun b => !b
abbrev kEqI : C2 := cEqI fun b => b
abbrev kNeI : C2 := cEqI fun b => !b
abbrev xAugAdd : Nat → TE3 → TS3 := xAug (fun _ _ => True) fun i j => i + j
abbrev xAugMul : Nat → TE3 → TS3 := xAug MulOk fun i j => i * j
abbrev xNoE : Addr → List T → Prop := fun _ _ => False
/-! ### a def of the module, by its name -/
def Cal (P : Program) (w : World) (K : PySem.W.Frag) (mg : Str → Option Value) (base : Heap) (x : Str) (k : Nat) (ps : List Str) (sp : Sp3) : Prop :=
  ∃ f fd, FnOk P w K mg base CX0 k f fd ps (lift K sp) ∧ mg x = some (.ref f) ∧ PySem.W.keepIn K (.ref f) = true ∧ Binds K fd ps []
section
variable {X : Cx} {es : List Expr} {e : Expr} {u : TC3} {pos p : Pos} {sp : Sp3} {k j : Nat} {ps : List Str} {x : Str} {t ta : TE3}
theorem p3_cal (c : Cal X.prog X.w X.K X.mg X.base x k ps sp) (hr : Room k X.A) (hg : Gl X x) (hu : C3 X (e :: es) u)
    (hdb : (x == ("__debug__" : Str)) = false := by decide) (he : starEach (e :: es) X.env = (false, eval e X.env) :: starEach es X.env := by rfl) (hpl : (backTo pos (starEach es X.env)).any (·.1) = false := by rfl) :
    P3 X (.Call (.Name x p) (e :: es) [] pos) (xCall sp xNoE u) := by
  obtain ⟨f, fd, F, hm, hk, hb⟩ := c
  exact p3_call F hr hg hm hk hb hu hdb he hpl
end
/-! ### isinstance -/
end L3
namespace L3
open PySem PySem.Spec PyProof.Rows L2
section
variable {P : Program} {w : World} {K : PySem.W.Frag} {mg : Str → Option Value} {base : Heap}
/-- a promise that nobody asks for -/
theorem ok0 {x qual : Str} {st : Stmt} {f : Addr} {fd : FuncData} {N ps : List Str} {k : Nat} {sp : Sp3} (F : Fun K x qual st f fd) (S : FnScope N ps (defScope st)) (z : ∀ ts Q E, sp ts Q E → False) : FnOk P w K mg base CX0 (k + 1) f fd ps (lift K sp) := by
  refine F.ok S (fun vs H Q E h => ?_) (fun cdv A outer s H vs Q E hr h => ?_)
  · obtain ⟨G, Z, ts, Q3, E3, st, hsp, _⟩ := h
    exact (z _ _ _ hsp).elim
  · obtain ⟨G, Z, ts, Q3, E3, st, hsp, _⟩ := h
    exact (z _ _ _ hsp).elim
theorem Cal.mono {x : Str} {j k : Nat} {ps : List Str} {sp : Sp3} (c : Cal P w K mg base x j ps sp) (h : j ≤ k) : Cal P w K mg base x k ps sp := by
  obtain ⟨f, fd, F, r⟩ := c
  exact ⟨f, fd, F.mono h, r⟩
end
end L3
namespace L3
open PySem PySem.Spec PyProof.Rows L2
/-! ### lists of one's own lent to an expression that only reads -/
/-- a slot as it is lent -/
def borQ : Option T → Option T
  | some (.own a l) => some (.d (fz (.own a l)))
  | some (.tp l) => some (.d (fz (.tp l)))
  | q => q
/-- every list of one's own may be lent -/
def nvR : Rho → Prop
  | [] => True
  | some (.own _ l) :: r => nvs l = true ∧ nvR r
  | some (.tp l) :: r => nvs l = true ∧ nvR r
  | _ :: r => nvR r
theorem nvR_at : ∀ {r : Rho} {i : Nat} {t : T}, nvR r → r[i]? = some (some t) → (∀ a l, t = .own a l → nvs l = true) ∧ (∀ l, t = .tp l → nvs l = true)
  | [], i, t, h, e => by simp at e
  | q :: r, i + 1, t, h, e => by
    have e2 : r[i]? = some (some t) := by simpa using e
    match q, h with
    | none, h => exact nvR_at (r := r) h e2
    | some (.d _), h => exact nvR_at (r := r) h e2
    | some (.v _), h => exact nvR_at (r := r) h e2
    | some (.sc _ _), h => exact nvR_at (r := r) h e2
    | some (.own _ _), h => exact nvR_at (r := r) h.2 e2
    | some (.tp _), h => exact nvR_at (r := r) h.2 e2
  | q :: r, 0, t, h, e => by
    have e2 : q = some t := by simpa using e
    subst e2
    refine ⟨fun a l k => ?_, fun l k => ?_⟩
    · subst k; exact h.1
    · subst k; exact h.1
def bor (r : Rho) : Rho := r.map borQ
theorem cto_bor (a : Addr) (r : Rho) : cto a (bor r) = 0 := by
  induction r with
  | nil => rfl
  | cons q r ih =>
    show cto a (borQ q :: bor r) = 0
    rw [cto_cons, ih]
    have z : ctq a (borQ q) = 0 := by
      match q with
      | none => rfl
      | some (.d _) => rfl
      | some (.v _) => rfl
      | some (.sc _ _) => rfl
      | some (.own b l) => rfl
      | some (.tp l) => rfl
    rw [z]
section
variable {K : PySem.W.Frag} {G Z Z' H H' : Hp} {ks : List T} {vs : List V} {r r' : Rho} {s : L2.St} {t : T} {v : V} {i : Nat} {a : Addr}
def lent (Z H : Hp) (ks : List T) (r : Rho) : Hp := fun a => if 0 < cts a ks + cto a r then H a else Z a
theorem S3.lentS (h : S3 K G Z H ks vs r s) : Sub Z (lent Z H ks r) := fun a o e => by
  unfold lent
  split
  · exact h.zh a o e
  · exact e
theorem S3.lend (h : S3 K G Z H ks vs r s) (nr : nvR r) : S3 K G (lent Z H ks r) H [] [] (bor r) s := by
  refine ⟨fun a o e => ?_, h.gh, fun a => ?_, fun a c => ?_, .nil, fun i t e => ?_, ?_⟩
  · unfold lent at e
    split at e
    · exact e
    · exact h.zh a o e
  · rw [cto_bor]; simp [cts]
  · rw [cto_bor] at c; simp [cts] at c
  · unfold bor at e
    rw [List.getElem?_map] at e
    cases q : r[i]? with
    | none => rw [q] at e; cases e
    | some x =>
      rw [q] at e
      have e2 : borQ x = some t := Option.some.inj e
      have lz : ∀ t', r[i]? = some (some t') → ∀ b, 0 < ct b t' → ∀ o, H b = some o → lent Z H ks r b = some o := fun t' e3 b hb o e4 => by
        have := cto_get b r i t' e3
        unfold lent
        rw [if_pos (by omega)]
        exact e4
      match x, e2 with
      | some (.d d), e2 =>
        cases e2
        obtain ⟨v, ev, rt⟩ := h.slot i _ q
        exact ⟨v, ev, rt_mono h.lentS _ _ (fun _ _ _ e => e) rt⟩
      | some (.v d), e2 =>
        cases e2
        obtain ⟨v, ev, rt⟩ := h.slot i _ q
        exact ⟨v, ev, rt_mono h.lentS _ _ (fun _ _ _ e => e) rt⟩
      | some (.sc _ _), e2 =>
        cases e2
        obtain ⟨v, ev, rt⟩ := h.slot i _ q
        exact ⟨v, ev, rt_mono h.lentS _ _ (fun _ _ _ e => e) rt⟩
      | some (.own b l), e2 =>
        cases e2
        obtain ⟨v, ev, rt⟩ := h.slot i _ q
        exact ⟨v, ev, .d (rt_fz h.lentS _ _ (by simpa [nv] using (nvR_at nr q).1 _ _ rfl) (lz _ q) rt)⟩
      | some (.tp l), e2 =>
        cases e2
        obtain ⟨v, ev, rt⟩ := h.slot i _ q
        exact ⟨v, ev, .d (rt_fz h.lentS _ _ (by simpa [nv] using (nvR_at nr q).2 _ rfl) (lz _ q) rt)⟩
  · unfold bor; rw [List.length_map]; exact h.len
def unlent (Z Z' : Hp) : Hp := fun a => match Z' a with | some (.lst _) => Z a | o => o
theorem unlent_t (Z Z' : Hp) : SubT Z' (unlent Z Z') := fun a o e n => by
  unfold unlent
  rw [e]
  split
  · rename_i xs q; cases q; exact absurd rfl (n xs)
  · rfl
theorem S3.unlend (h : S3 K G Z H ks vs r s) {ks' : List T} {vs' : List V} {r' : Rho} (g : Gr G (lent Z H ks r) Z') (h' : S3 K G Z' H' ks' vs' r' s) (lf : lfts ks' = true) : Gr G Z (unlent Z Z') ∧ S3 K G (unlent Z Z') H' (ks' ++ ks) (vs' ++ vs) r s := by
  have zz : Sub Z Z' := h.lentS.trans g.sub
  have ze : Sub Z (unlent Z Z') := fun a o e => by
    unfold unlent
    rw [zz a o e]
    split
    · exact e
    · rfl
  have at' : ∀ a, 0 < cts a ks + cto a r → ∀ o, H a = some o → Z' a = some o := fun a c o e => g.sub a o (by unfold lent; rw [if_pos c]; exact e)
  have nz : ∀ a, 0 < cts a ks + cto a r → unlent Z Z' a = none := fun a c => by
    obtain ⟨xs, e⟩ := h.owned c
    unfold unlent
    rw [at' a c _ e]
    exact (h.ow a c).1
  have own' : ∀ a, 0 < cts a ks' → cts a ks + cto a r = 0 := fun a c => by
    by_cases c2 : 0 < cts a ks + cto a r
    · obtain ⟨xs, e⟩ := h.owned c2
      have h1 := at' a c2 _ e
      have h2 := (h'.ow a (by omega)).1
      rw [h1] at h2; cases h2
    · omega
  refine ⟨⟨ze, fun a o e n => ?_⟩, ⟨fun a o e => ?_, h'.gh, fun a => ?_, fun a c => ?_, ?_, fun i t e => ?_, h.len⟩⟩
  · have c : ¬ 0 < cts a ks + cto a r := fun c => by
      have := (h.ow a c).2
      rw [e] at this; cases this
    have h1 : lent Z H ks r a = none := by unfold lent; rw [if_neg c]; exact n
    have h2 := g.out a o e h1
    unfold unlent
    rw [h2]
  · unfold unlent at e
    cases q : Z' a with
    | none => rw [q] at e; cases e
    | some u =>
      rw [q] at e
      split at e
      · exact h'.zh a o (zz a o e)
      · exact h'.zh a o (by rw [q]; exact e)
  · rw [cts_append]
    by_cases c : 0 < cts a ks'
    · have := own' a c
      have := h'.one a
      omega
    · have := h.one a
      omega
  · rw [cts_append] at c
    by_cases c2 : 0 < cts a ks'
    · have h1 := h'.ow a (by omega)
      refine ⟨?_, h1.2⟩
      unfold unlent
      rw [h1.1]
    · exact ⟨nz a (by omega), (h.ow a (by omega)).2⟩
  · have k1 := rts_lf (unlent_t Z Z') ks' vs' lf h'.stk
    have k2 := rts_mono (H' := H') ze ks vs (fun b hb o e => h'.zh b o (at' b (by omega) o e)) h.stk
    exact rts_app k1 k2
  · obtain ⟨v, ev, rt⟩ := h.slot i t e
    exact ⟨v, ev, rt_mono ze t v (fun b hb o e2 => h'.zh b o (at' b (by have := cto_get b r i t e; omega) o e2)) rt⟩
end
section
variable {X : Cx} {e : Expr} {t : TE3} {tt : TT3}
/-- an expression over lent lists -/
def xBor (t : TE3) : TE3 := fun r Q => nvR r ∧ t (bor r) fun x _ => lft x = true ∧ Q x r
def xBorT (t : TT3) : TT3 := fun r Q => nvR r ∧ t (bor r) fun b _ => Q b r
theorem p3_bor (h : P3 X e t) : P3 X e (xBor t) := by
  obtain ⟨te, he, sa⟩ := h.ex
  refine ⟨te, he, fun G Z H ks vs r s Q Q3 st ht k => sa G _ H [] [] (bor r) s _ _ (st.lend ht.1) ht.2 fun Z' H' x v r' g st' q => ?_⟩
  obtain ⟨g2, st2⟩ := st.unlend g st' (by simp [lfts, q.1])
  exact k _ H' x v r g2 st2 q.2
theorem t3_bor (h : T3 X e tt) : T3 X e (xBorT tt) := by
  obtain ⟨te, he, sa⟩ := h.ex
  refine ⟨te, he, fun G Z H ks vs r s Q Q3 st ht k => sa G _ H [] [] (bor r) s _ _ (st.lend ht.1) ht.2 fun Z' H' b r' g st' q => ?_⟩
  obtain ⟨g2, st2⟩ := st.unlend g st' rfl
  exact k _ H' b r g2 st2 q
end
end L3
namespace L3
open PySem PySem.Spec PyProof.Rows L2
/-! ### enumerate over a list -/
def enumD (l : List PyData) : List PyData := List.zipWith (fun (i : Nat) x => PyData.tuple [.int (i : Nat), x]) (List.range l.length) l
theorem enumD_len (l : List PyData) : (enumD l).length = l.length := by
  unfold enumD
  rw [List.length_zipWith, List.length_range, Nat.min_self]
theorem enumD_get {l : List PyData} {i : Nat} {x : PyData} (h : (enumD l)[i]? = some x) : ∃ y, l[i]? = some y ∧ x = .tuple [.int (i : Nat), y] := by
  unfold enumD at h
  rw [List.getElem?_zipWith] at h
  cases e2 : l[i]? with
  | none => rw [e2] at h; cases q : (List.range l.length)[i]? <;> rw [q] at h <;> cases h
  | some y =>
    have hi : i < l.length := (List.getElem?_eq_some_iff.mp e2).1
    rw [e2, List.getElem?_range hi] at h
    exact ⟨y, rfl, (Option.some.inj h).symm⟩
section
variable {X : Cx} {a : Expr} {ta : TE3} {p pos : Pos}
def xEnum (t : TE3) : TI3 := fun r R => t r fun x r' => match x with
  | .d (.list l) => R (enumD l) r'
  | _ => False
theorem i3_enum {tpos : Pos} {elts : List Expr} {kk : Nat} (hg : Gl X "enumerate") (hm : X.mg "enumerate" = none) (ha : R3 X a ta) (hs : starEach [a] X.env = [(false, eval a X.env)] := by rfl) (hs2 : starEach [a] X.env = (false, eval a X.env) :: starEach [] X.env := by rfl) :
    I3 X (.Tuple elts kk tpos) (.Call (.Name "enumerate" p) [a] [] pos) (xEnum ta) := by
  obtain ⟨te, ee, se⟩ := ha.ex
  refine ⟨_, pi_enum hg hm (pa_cons ee pa_nil hs2) hs, fun G Z H ks vs r s R Q3 st ht k => se G Z H ks vs r s _ _ st ht fun Z1 H1 x v r1 g1 st1 pv q => ?_⟩
  split at q
  · rename_i l
    cases (show Dq X.K Z1 v (.list l) from pv) with
    | @lst a1 xs _ hs1 ha1 =>
      refine ⟨a1, xs, rfl, SqL.of (st1.zh _ _ hs1), k Z1 H1 _ _ r1 g1 st1 (fun Z' H i z zh => ⟨fun x hx => ?_, fun hi => ?_⟩) q⟩
      · obtain ⟨y, e1, rfl⟩ := enumD_get hx
        obtain ⟨vy, f1, d1⟩ := dpa_get ha1 e1
        refine ⟨⟨xs, vy, SqL.of (zh _ _ (z _ _ hs1)), f1⟩, fun v' H' ⟨T0, x', h1, h2, h3, h4⟩ => .inr ⟨T0, _, h2, h3, ?_⟩⟩
        have i1 := h4 xs (SqL.of (zh _ _ (z _ _ hs1)))
        rw [f1] at i1; cases i1
        rw [h1]
        have s : Sub Z' (upd Z' T0 (.tup [.int (i : Nat), vy])) := fun a o e => by rw [upd_ne (fun q => by rw [q] at e; have := zh _ _ e; rw [h2] at this; cases this)]; exact e
        exact .tup upd_same (.cons (.int _) (.cons (dp_mono s _ _ (dp_mono z _ _ d1)) .nil))
      · exact ⟨xs, SqL.of (zh _ _ (z _ _ hs1)), by rw [← dpa_len ha1]; rw [enumD_len] at hi; exact hi⟩
  · exact q.elim
end
end L3
namespace L3
open PySem PySem.Spec PyProof.Rows L2
/-! ### texts -/
end L3
namespace HT
open PySem PySem.Spec PyProof.Rows
section
variable {prog : Program} {w : World} {A : Around} {E : Value → Shared → Prop} {s : Shared}
theorem sliceApplied_rev {sl : Addr} {vs : Value} {n : Nat} {Q : Int × Int × Nat → Shared → Prop} (hs : s.heap.IsSliceOf sl .none .none vs) (ps : IsPart vs (some (-1)))
    (h : Q ((n : Int) - 1, -1, n) s) : wpAny (model prog w) A (Builtin.Slice.sliceApplied (.ref sl) (pure (n : Int))) Q E s := by
  obtain ⟨os, hos, hcs, hds⟩ := id hs
  unfold Builtin.Slice.sliceApplied Builtin.Slice.sliceFields
  refine wpAny_bind (wpAny_bind (wpAny_field hos hds (x := .none) rfl (wpAny_bind (wpAny_field hos hds (x := .none) rfl (wpAny_bind (wpAny_field hos hds (x := vs) rfl (wpAny_pure ?_)))))))
  refine wpAny_bind (slicePart_ ps ?_)
  show wpAny _ _ (if ((-1 : Int) == 0) = true then _ else _) _ _ s
  rw [if_neg (by decide)]
  refine wpAny_bind (slicePart_none (wpAny_bind (slicePart_none (wpAny_bind (wpAny_pure ?_)))))
  show wpAny _ _ (pure ((n : Int) - 1, (-1 : Int), Builtin.Slice.slicePlaces ((n : Int) - 1) (-1) (-1))) _ _ s
  have e : Builtin.Slice.slicePlaces ((n : Int) - 1) (-1) (-1) = n := by
    unfold Builtin.Slice.slicePlaces
    rw [if_neg (by decide)]
    by_cases c : (n : Int) - 1 > -1
    · rw [if_pos c, show (-(-1) : Int) = 1 by decide, Int.ediv_one]
      omega
    · rw [if_neg c]
      omega
  rw [e]
  exact wpAny_pure h
theorem fm_congr {α β : Type} {f g : α → Option β} : ∀ (l : List α), (∀ x ∈ l, f x = g x) → l.filterMap f = l.filterMap g
  | [], _ => rfl
  | x :: l, h => by
    have ih := fm_congr l fun y hy => h y (List.mem_cons_of_mem _ hy)
    have h0 := h x (by simp)
    rw [List.filterMap_cons, List.filterMap_cons, h0, ih]
theorem pick_rev (xs : Array Value) : ((List.range xs.size).filterMap fun (m : Nat) => xs[((xs.size : Int) - 1 + (m : Int) * -1).toNat]?).toArray = xs.toList.reverse.toArray := by
  have e : (List.range xs.size).filterMap (fun (m : Nat) => xs[((xs.size : Int) - 1 + (m : Int) * -1).toNat]?) = (List.range xs.size).filterMap ((fun k => xs[k]?) ∘ fun k => xs.size - 1 - k) := by
    refine fm_congr _ fun m hm => ?_
    have := List.mem_range.mp hm
    show xs[((xs.size : Int) - 1 + (m : Int) * -1).toNat]? = xs[xs.size - 1 - m]?
    rw [show ((xs.size : Int) - 1 + (m : Int) * -1).toNat = xs.size - 1 - m by omega]
  rw [e, ← List.filterMap_map, PySem.W.krv_range, List.filterMap_reverse, PySem.W.krv_all]
theorem getItem_tuple_rev {t sl : Addr} {items : Array Value} {vs : Value} {Q : Value → Shared → Prop} (ht : IsTup s.heap t items) (hs : s.heap.IsSliceOf sl .none .none vs) (ps : IsPart vs (some (-1)))
    (h : Q (.ref s.heap.objs.size) { s with heap := s.heap.push { cls := .type "tuple", data := .seq items.toList.reverse.toArray } })
    (hsz : items.size ≤ sizeLine) : wpAny (model prog w) A (getItem (.ref t) (.ref sl)) Q E s := by
  have htake : sizeOk (.seq items.toList.reverse.toArray) := by
    show items.toList.reverse.toArray.size ≤ sizeLine
    rw [List.size_toArray, List.length_reverse, Array.length_toList]
    exact hsz
  obtain ⟨os, hos, hcs, hds⟩ := id hs
  have hTs : s.TypeIs (.ref sl) "slice" := ⟨os, hos, hcs⟩
  unfold getItem
  try with_reducible refine wpAny_holding ?_
  first | refine wpAny_bind (wpAny_pure ?_) | skip
  refine wpAny_bind (wpAny_sequenceKey ht.typeIs (by decide) ?_)
  refine wpAny_bind (wpAny_callSpecial?_slot (name := Str.ofString "__getitem__") ht.typeIs PyProof.Rows.slot_tuple_getitem
    (wpAny_call_entry PyProof.Rows.slot_tuple_getitem ht.typeIs entry_tuple_getitem ?_ (args_tuple_getitem _ _)))
  show wpAny _ _ (Builtin.Tuple.tupleItemsOf (.ref t) >>= _) _ _ s
  refine wpAny_bind (tupleItemsOf_ ht ?_)
  refine wpAny_bind (wpAny_typeOf hTs ?_)
  rw [if_pos (by decide)]
  refine wpAny_bind (sliceApplied_rev hs ps ?_)
  have hno : ¬ ((((items.size : Int) - 1) == 0 && (-1 : Int) == 1 && items.size == items.size) = true) := by simp
  show wpAny _ _ (if (((items.size : Int) - 1) == 0 && (-1 : Int) == 1 && items.size == items.size) = true then _ else _) _ _ s
  rw [if_neg hno, pick_rev]
  first
    | exact wpAny_bind (m := Builtin.Tuple.tupleExact _) (wpAny_newObj_type (wpAny_pure ⟨_, rfl, wpAny_pure h⟩) htake)
    | exact wpAny_bind (m := Builtin.Tuple.tupleExact _) (wpAny_newObj_type (wpAny_bind (wpAny_pure (wpAny_pure ⟨_, rfl, wpAny_pure h⟩))) htake)
    | exact wpAny_bind (wpAny_bind (m := Builtin.Tuple.tupleExact _) (wpAny_newObj_type (wpAny_pure (wpAny_pure ⟨_, rfl, wpAny_pure h⟩)) htake))
    | exact wpAny_bind (wpAny_bind (m := Builtin.Tuple.tupleExact _) (wpAny_newObj_type (wpAny_pure ⟨_, rfl, wpAny_pure h⟩) htake))
end
end HT
namespace L3
open PySem PySem.Spec PyProof.Rows L2
/-- t[::-1] of a tuple -/
def tRevT (K : PySem.W.Frag) (te : TE) : TE := fun σ H Q => te σ H fun x H1 => ∃ a xs, x = .ref a ∧ SqT K H1 a xs ∧ ∀ p, H1 p = none → Q (.ref p) (upd H1 p (.tup xs.reverse))
section
variable {X : Cx}
theorem pe_revT {e : Expr} {te : TE} {k : Nat} {p1 p2 p3 pos : Pos} (he : PE X e te) : PE X (.Subscript e (.Slice none none (some (.UnaryOp .USub (.Constant (.int 1) k p1) p2)) p3) pos) (tRevT X.K te) := by
  refine ⟨fun pins s σ H Q I h => ?_⟩
  refine Subscript_ (thn (he.run pins s σ H _ I h) fun v s1 ⟨x, H1, I1, r1, q1⟩ => ?_)
  obtain ⟨a, xs, ex, hx, q⟩ := q1
  subst ex
  cases r1
  have hst : PO X (some (.UnaryOp .USub (.Constant (.int 1) k p1) p2)) (tPart (tUn (rU fun i => .int (-i)) (tC (.int 1)))) := po_some (pe_un un_neg pe_int)
  refine wpAny_Slice (thn (po_none.run pins s1 σ H1 (fun o H2 => o = none ∧ H2 = H1) I1 ⟨rfl, rfl⟩) fun vl s2 ⟨l, H2, I2, pl, el, e2⟩ => ?_)
  subst el e2
  refine thn (po_none.run pins s2 σ H2 (fun o H3 => o = none ∧ H3 = H2) I2 ⟨rfl, rfl⟩) fun vu s3 ⟨u, H3, I3, pu, eu, e3⟩ => ?_
  subst eu e3
  refine thn (hst.run pins s3 σ H3 (fun o H4 => o = some (-1) ∧ H4 = H3) I3 ⟨1, rfl, -1, rfl, rfl, rfl⟩) fun vs s4 ⟨o, H4, I4, ps, eo, e4⟩ => ?_
  subst eo e4
  cases pl
  cases pu
  have I5 : Inv X pins σ H4 { s4 with heap := s4.heap.push { cls := .type "slice", data := .fields #[.none, .none, vs] } } := I4.kept (t' := s4.toks) fun b ob q => Heap.get?_push_of_some _ q
  obtain ⟨its, r, ht, hz⟩ := I5.tuple hx
  have hlen := r.length
  show wpAny (model X.prog X.w) X.A (subscriptTail e (.Slice none none (some (.UnaryOp .USub (.Constant (.int 1) k p1) p2)) p3) (.ref a) (.ref s4.heap.objs.size)) (EP X pins σ Q) X.xe { s4 with heap := s4.heap.push { cls := .type "slice", data := .fields #[.none, .none, vs] } }
  refine tail_any (ops := [.ref a, .ref s4.heap.objs.size]) ht.typeIs (PyProof.Rows.slot_tuple_getitem.lookup) ?_ (by with_unfolding_all rfl)
  refine HT.getItem_tuple_rev ht (Heap.IsSliceOf.new _ .none .none vs) ps ?_ (by rw [List.size_toArray]; omega)
  refine ⟨.ref _, _, I5.laid (t' := s4.toks) (o := .tup xs.reverse) (fun b ob q => Heap.get?_push_of_some _ q) (Nat.le_refl _) ?_, rfl, q _ (I5.hok.fresh (Nat.le_refl _))⟩
  first
    | exact ⟨by rw [List.length_reverse]; exact hz, _, r.reverse, Heap.get?_push_size _ rfl⟩
    | exact ⟨by rw [List.length_reverse]; exact hz, _, 0, r.reverse, Heap.get?_push_size _ rfl⟩
    | exact ⟨by rw [List.length_reverse]; exact hz, _, r.reverse, IsTup.new _ _⟩
    | exact ⟨by rw [List.length_reverse]; exact hz, _, _, r.reverse, Heap.get?_push_size _ rfl⟩
    | trace_state
end
theorem dpa_rev {K : PySem.W.Frag} {Z : Hp} : ∀ {l : List PyData} {xs : List V}, DqAll K Z xs l → DqAll K Z xs.reverse l.reverse
  | [], xs, h => by cases h; exact .nil
  | x :: l, xs, h => by
    cases h with
    | cons h1 h2 =>
      rw [List.reverse_cons, List.reverse_cons]
      exact dpa_app (dpa_rev h2) (.cons h1 .nil)
section
variable {X : Cx} {e : Expr} {t : TE3} {pos : Pos}
def xRevT (t : TE3) : TE3 := fun r Q => t r fun x r' => match x with
  | .d (.tuple l) => Q (.d (.tuple l.reverse)) r'
  | _ => False
theorem p3_revT {k : Nat} {p1 p2 p3 : Pos} (h : R3 X e t) : P3 X (.Subscript e (.Slice none none (some (.UnaryOp .USub (.Constant (.int 1) k p1) p2)) p3) pos) (xRevT t) := by
  obtain ⟨te, he, sa⟩ := h.ex
  refine ⟨_, pe_revT he, fun G Z H ks vs r s Q Q3 st ht kk => sa G Z H ks vs r s _ _ st ht fun Z1 H1 x v r1 g1 st1 pv q => ?_⟩
  split at q
  · rename_i l
    cases (show Dq X.K Z1 v (.tuple l) from pv) with
    | @tup a1 xs _ hs1 ha1 =>
      refine ⟨a1, xs, rfl, SqT.of (st1.zh _ _ hs1), fun p hp => ?_⟩
      obtain ⟨g2, st2⟩ := st1.laidG (o := .tup xs.reverse) hp
      exact kk _ _ (.d (.tuple l.reverse)) _ r1 (g1.trans g2) (st2.pushD (.tup upd_same (dpa_mono g2.sub _ _ (dpa_rev ha1)))) q
  · exact q.elim
end
end L3
namespace L3
open PySem PySem.Spec PyProof.Rows L2
end L3
/-! zip of two sequences, each a list or a tuple -/
namespace L3
open PySem PySem.Spec PyProof.Rows L2 RZ
/-- a sequence: a tuple (true) or a list (false) -/
def SqX (K : PySem.W.Frag) (b : Bool) (H : Hp) (a : Addr) (xs : List V) : Prop := match b with | true => SqT K H a xs | false => SqL K H a xs
def itOb (b : Bool) (a : Addr) : Obj := match b with | true => { cls := .type "tuple_iterator", data := .fields #[.ref a, .int 0 0] } | false => { cls := .type "list_iterator", data := .fields #[.ref a, .int 0 0] }
def ItIs (b : Bool) (h : Heap) (it a : Addr) (i : Nat) : Prop := match b with | true => h.IsTupleIter it a i | false => h.IsListIter it a i
def SeqIs (b : Bool) (h : Heap) (a : Addr) (xs : Array Value) : Prop := match b with | true => h.IsTuple a xs | false => h.IsList a xs
theorem ItIs.fields {b : Bool} {h : Heap} {it a : Addr} {i : Nat} (x : ItIs b h it a i) : ∃ o vs, h.get? it = some o ∧ o.data = .fields vs := by
  cases b with
  | true => obtain ⟨o, e, _, d⟩ := x; exact ⟨o, _, e, d⟩
  | false => obtain ⟨o, e, _, d⟩ := x; exact ⟨o, _, e, d⟩
theorem ItIs.at {b : Bool} {h h' : Heap} {it a : Addr} {i : Nat} (x : ItIs b h it a i) (k : ∀ o, h.get? it = some o → h'.get? it = some o) : ItIs b h' it a i := by
  cases b with
  | true => exact Heap.IsTupleIter.at x k
  | false => exact Heap.IsListIter.at x k
theorem drawsX {prog : Program} {w : World} {A : Around} (hh : A.handled = none) (b : Bool) (it l : Addr) (hne : l ≠ it) (items : Array Value) :
    Draws prog w A it [it, l] items.size (fun i v => items[i]? = some v) (fun i h => ItIs b h it l i ∧ SeqIs b h l items) := by
  cases b with
  | true => exact Draws.tuple hh it l hne items
  | false => exact Draws.list hh it l hne items
theorem drawsAt {prog : Program} {w : World} {A : Around} (hh : A.handled = none) (b : Bool) (it l : Addr) (hne : l ≠ it) (items : Array Value) (i : Nat) :
    ∃ n P St, Draws prog w A it [it, l] n P St ∧ i ≤ n ∧ (items.size ≤ i → i = n) ∧ ∀ h, ItIs b h it l i → SeqIs b h l items → St i h := by
  by_cases hi : items.size ≤ i
  · refine ⟨i, fun _ _ => True, fun j h => j = i ∧ ItIs b h it l i ∧ SeqIs b h l items, ⟨fun j h st => ?_, fun j h h' st hk => ?_, fun j s Q E hj st _ => absurd st.1 (Nat.ne_of_lt hj), fun s Q E st hE => ?_⟩, Nat.le_refl _, fun _ => rfl, fun h h1 h2 => ⟨rfl, h1, h2⟩⟩
    · obtain ⟨o, _, e, _⟩ := st.2.1.fields
      exact ⟨o, e⟩
    · refine ⟨st.1, st.2.1.at fun o e => hk it (by simp) o e, ?_⟩
      cases b with
      | true => exact Heap.IsTuple.at st.2.2 fun o e => hk l (by simp) o e
      | false => exact Heap.IsList.at st.2.2 fun o e => hk l (by simp) o e
    · cases b with
      | true => exact wpAny_nextOf_tuple_end hh st.2.1 st.2.2 (by simpa using hi) hE
      | false => exact wpAny_nextOf_list_end hh st.2.1 st.2.2 (by simpa using hi) hE
  · exact ⟨_, _, _, drawsX hh b it l hne items, by omega, fun h => absurd h hi, fun h h1 h2 => ⟨h1, h2⟩⟩
theorem beginsX (b : Bool) (l : Addr) (items : Array Value) : Begins (.ref l) (itOb b l) fun h => SeqIs b h l items := by
  cases b with
  | true => exact begins_tuple l items
  | false => exact begins_list l items
theorem itOb_is {b : Bool} {h : Heap} {it a : Addr} (e : h.get? it = some (itOb b a)) : ItIs b h it a 0 := by
  cases b with
  | true => exact ⟨_, e, rfl, rfl⟩
  | false => exact ⟨_, e, rfl, rfl⟩
theorem seqX {X : Cx} {pins : List (Addr × Obj)} {σ : L2.St} {H : Hp} {s : Shared} {b : Bool} {a : Addr} {xs : List V} (I : Inv X pins σ H s) (h : SqX X.K b H a xs) :
    ∃ its, Vals xs its ∧ SeqIs b s.heap a its.toArray ∧ a < s.heap.objs.size := by
  cases b with
  | true =>
    obtain ⟨its, rv, p, _⟩ := I.tuple h
    have p' : s.heap.IsTuple a its.toArray := p
    exact ⟨its, rv, p', by obtain ⟨o, ho, _⟩ := p'; exact Heap.lt_size ho⟩
  | false =>
    obtain ⟨its, rv, p, _⟩ := I.list h
    exact ⟨its, rv, p.isList, p.lt⟩
theorem seqX_inj {X : Cx} {pins : List (Addr × Obj)} {σ : L2.St} {H : Hp} {s : Shared} {b : Bool} {a : Addr} {xs ys : List V} (I : Inv X pins σ H s) (h : SqX X.K b H a xs) (k : SqX X.K b H a ys) : xs = ys := by
  cases b with
  | true => exact I.tuple_inj h k
  | false => exact I.list_inj h k
def ItzX (K : PySem.W.Frag) (p q : Bool) (a b : Addr) : It :=
  ⟨fun i H => ∃ (xs ys : List V) (x y : V), SqX K p H a xs ∧ SqX K q H b ys ∧ xs[i]? = some x ∧ ys[i]? = some y,
    fun i H v H' => ∃ T x y, v = .ref T ∧ H T = none ∧ H' = upd H T (.tup [x, y]) ∧ (∀ xs, SqX K p H a xs → xs[i]? = some x) ∧ ∀ ys, SqX K q H b ys → ys[i]? = some y,
    fun i H => ∃ xs ys : List V, SqX K p H a xs ∧ SqX K q H b ys ∧ (xs.length ≤ i ∨ ys.length ≤ i)⟩
theorem turn_zipX {P : Program} {w : World} {K : PySem.W.Frag} {elts : List Expr} {kk : Nat} {tpos : Pos} {p q : Bool} {a b z TI TO i1 i2 : Addr} (D : ZipSep2 z TI TO i1 i2 [i1, a] [i2, b]) (ne1 : a ≠ i1) (ne2 : b ≠ i2) :
    Turn P w K (.Tuple elts kk tpos) (ItzX K p q a b) [z, TI, TO, i1, i2] z (fun i h => IsZip h z TI TO .none ∧ IsPair h TI (.ref i1) (.ref i2) ∧ (∃ x y, IsPair h TO x y) ∧ ItIs p h i1 a i ∧ ItIs q h i2 b i) where
  mem := by simp
  obj := fun i h st c hc => by
    obtain ⟨hz, hTI, ⟨x, y, hTO⟩, h1, h2⟩ := st
    obtain ⟨o1, v1, e1, d1⟩ := h1.fields
    obtain ⟨o2, v2, e2, d2⟩ := h2.fields
    have e' : c = z ∨ c = TI ∨ c = TO ∨ c = i1 ∨ c = i2 := by simpa using hc
    rcases e' with q | q | q | q | q
    · rw [q]; exact ⟨_, hz, fun v q => nomatch q⟩
    · rw [q]; exact ⟨_, hTI, fun v q => nomatch q⟩
    · rw [q]; exact ⟨_, hTO, fun v q => nomatch q⟩
    · rw [q]; exact ⟨o1, e1, fun v q => by rw [d1] at q; cases q⟩
    · rw [q]; exact ⟨o2, e2, fun v q => by rw [d2] at q; cases q⟩
  keep := fun i h h' st k => by
    obtain ⟨hz, hTI, ⟨x, y, hTO⟩, h1, h2⟩ := st
    exact ⟨k z (by simp) _ hz, k TI (by simp) _ hTI, ⟨x, y, k TO (by simp) _ hTO⟩, h1.at fun o q => k i1 (by simp) o q, h2.at fun o q => k i2 (by simp) o q⟩
  item := by
    intro X hP hw hK hc i pins s σ H E I hf st hg
    subst hP hw hK
    obtain ⟨hz, hTI, ⟨x0, y0, hTO⟩, h1, h2⟩ := st
    obtain ⟨xs, ys, x, y, hqx, hqy, hx, hy⟩ := hg
    obtain ⟨its, rv, p1, _⟩ := seqX I hqx
    obtain ⟨its2, rv2, p2, _⟩ := seqX I hqy
    obtain ⟨u, hu, ru⟩ := rv.get hx
    obtain ⟨u2, hu2, ru2⟩ := rv2.get hy
    have hzl : z < s.heap.objs.size := Heap.lt_size hz
    have s1 : i < its.toArray.size := by have := (List.getElem?_eq_some_iff.mp hu).1; simpa using this
    have s2 : i < its2.toArray.size := by have := (List.getElem?_eq_some_iff.mp hu2).1; simpa using this
    refine wpAny_pyNext_zipD2_item D (drawsX (A := X.A.in1) (I.ok.hd hc) p i1 a ne1 its.toArray) (drawsX (A := X.A.in1) (I.ok.hd hc) q i2 b ne2 its2.toArray) hz hTI hTO ⟨h1, p1⟩ ⟨h2, p2⟩ s1 s2 fun w1 w2 h' tk y1 y2 z' TO' h1' h2' hT hsz hk => ?_
    have e1 : w1 = u := by
      have : its.toArray[i]? = some w1 := y1
      rw [List.getElem?_toArray, hu] at this
      cases this; rfl
    have e2 : w2 = u2 := by
      have : its2.toArray[i]? = some w2 := y2
      rw [List.getElem?_toArray, hu2] at this
      cases this; rfl
    subst e1 e2
    refine ⟨_, rfl, wpAny_letOwnedTupleGo_zip (s := { s with heap := h', toks := tk }) z' fun h'' z'' sb => ?_⟩
    have hT2 : h''.get? s.heap.objs.size = some { cls := .type "tuple", data := .seq #[w1, w2] } := (sb.2 _ (Nat.ne_of_gt hzl)).trans hT
    have new : ObjOk X.prog X.w (upd H s.heap.objs.size (.tup [x, y])) h'' s.heap.objs.size (.tup [x, y]) :=
      ⟨by show 2 ≤ sizeLine; decide, [w1, w2], .cons ru (.cons ru2 .nil), ⟨_, hT2, rfl, _, rfl⟩⟩
    have I1 : Inv X pins σ (upd H s.heap.objs.size (.tup [x, y])) { s with heap := h'', toks := tk } :=
      I.turnedNew (t' := tk) (ch := [z, TI, TO, i1, i2]) (fun c o hb q => (sb.2 c (fun q' => hb (by simp [q']))).trans (hk c o (fun q' => hb (by simp [q'])) (fun q' => hb (by simp [q'])) (fun q' => hb (by simp [q'])) (fun q' => hb (by simp [q'])) q)) hf (Nat.le_refl _) new
    refine ⟨.ref s.heap.objs.size, _, I1, rfl, ⟨_, x, y, rfl, I.hok.fresh (Nat.le_refl _), rfl, fun l hl => by rw [seqX_inj I hl hqx]; exact hx, fun l hl => by rw [seqX_inj I hl hqy]; exact hy⟩, ⟨z'', ?_, ⟨w1, w2, ?_⟩, ?_, ?_⟩, fun c hcm => ?_⟩
    · exact (sb.2 _ D.TIz).trans (hk _ _ D.TIz D.TITO D.TIi1 D.TIi2 hTI)
    · exact (sb.2 _ D.TOz).trans TO'
    · exact h1'.1.at fun o q => (sb.2 _ D.zi1.symm).trans q
    · exact h2'.1.at fun o q => (sb.2 _ D.zi2.symm).trans q
    · have hlt : c < s.heap.objs.size := by
        have e' : c = z ∨ c = TI ∨ c = TO ∨ c = i1 ∨ c = i2 := by simpa using hcm
        rcases e' with q | q | q | q | q
        · rw [q]; exact hzl
        · rw [q]; exact Heap.lt_size hTI
        · rw [q]; exact Heap.lt_size hTO
        · rw [q]; obtain ⟨_, _, e1, _⟩ := h1.fields; exact Heap.lt_size e1
        · rw [q]; obtain ⟨_, _, e2, _⟩ := h2.fields; exact Heap.lt_size e2
      rw [upd_ne (Nat.ne_of_lt hlt)]
      exact (hf c hcm).1
  done := by
    intro X hP hw hK hc i pins s σ H E I hf st hg
    subst hP hw hK
    obtain ⟨hz, hTI, ⟨x0, y0, hTO⟩, h1, h2⟩ := st
    obtain ⟨xs, ys, hqx, hqy, hend⟩ := hg
    obtain ⟨its, rv, p1, _⟩ := seqX I hqx
    obtain ⟨its2, rv2, p2, _⟩ := seqX I hqy
    have l1 := rv.length
    have l2 := rv2.length
    have z1 : its.toArray.size = its.length := by simp
    have z2 : its2.toArray.size = its2.length := by simp
    obtain ⟨n1, P1, St1, D1, a1, b1, c1⟩ := drawsAt (prog := X.prog) (w := X.w) (A := X.A.in1) (I.ok.hd hc) p i1 a ne1 its.toArray i
    obtain ⟨n2, P2, St2, D2, a2, b2, c2⟩ := drawsAt (prog := X.prog) (w := X.w) (A := X.A.in1) (I.ok.hd hc) q i2 b ne2 its2.toArray i
    exact wpAny_pyNext_zipD2_end D D1 D2 hz hTI hTO (c1 _ h1 p1) (c2 _ h2 p2) a1 a2 (hend.imp (fun q => b1 (by omega)) fun q => b2 (by omega)) fun h' tk hk => ⟨rfl, I.turnedL (t' := tk) (ch := [z, TI, TO, i1, i2]) (fun c o hb q =>
      hk c o (fun q' => hb (by simp [q'])) (fun q' => hb (by simp [q'])) (fun q' => hb (by simp [q'])) (fun q' => hb (by simp [q'])) q) hf⟩
  self := fun A i s Q E st h => wpAny_pyIter_zip st.1 h
def iZipX (K : PySem.W.Frag) (ta : TA) : TI := fun σ H R => ta σ H fun vs H1 => ∃ p q a b xs ys, vs = [.ref a, .ref b] ∧ SqX K p H1 a xs ∧ SqX K q H1 b ys ∧ R (ItzX K p q a b) H1
theorem pi_zipX {X : Cx} {e e2 : Expr} {ta : TA} {p pos tpos : Pos} {elts : List Expr} {kk : Nat} (hg : Gl X "zip") (hm : X.mg "zip" = none) (ha : PA X [e, e2] ta)
    (hs : starEach [e, e2] X.env = (false, eval e X.env) :: starEach [e2] X.env := by rfl) (hpl : (backTo pos (starEach [e2] X.env)).any (·.1) = false := by rfl) :
    PI X (.Tuple elts kk tpos) (.Call (.Name "zip" p) [e, e2] [] pos) (iZipX X.K ta) := by
  refine ⟨fun pins s σ H R I h => ?_⟩
  refine Call_ (ld_blt I hg hm PyProof.Rows.boot_zip (PyProof.Rows.callWith_type1 (thn (ha.run pos pins s σ H _ I h) fun us s1 ⟨vs, H1, I1, r1, q1⟩ => ?_) hs hpl))
  obtain ⟨p, q, a, b, xs, ys, ex, hqx, hqy, hq⟩ := q1
  subst ex
  cases r1 with
  | cons r rr =>
    cases rr with
    | cons r' rr =>
      cases rr
      cases r
      cases r'
      have fresh5 : ∀ c, c ∈ [s1.heap.objs.size + 4, s1.heap.objs.size + 2, s1.heap.objs.size + 3, s1.heap.objs.size, s1.heap.objs.size + 1] → FpOk X pins H1 c := fun c hcm => by
        have e' : c = s1.heap.objs.size + 4 ∨ c = s1.heap.objs.size + 2 ∨ c = s1.heap.objs.size + 3 ∨ c = s1.heap.objs.size ∨ c = s1.heap.objs.size + 1 := by simpa using hcm
        have hle : s1.heap.objs.size ≤ c := by
          rcases e' with z | z | z | z | z
          · rw [z]; exact Nat.le_add_right _ _
          · rw [z]; exact Nat.le_add_right _ _
          · rw [z]; exact Nat.le_add_right _ _
          · rw [z]; exact Nat.le_refl _
          · rw [z]; exact Nat.le_add_right _ _
        exact I1.fpOk hle (I1.hok.fresh hle)
      obtain ⟨its, rv, p1, lt1⟩ := seqX I1 hqx
      obtain ⟨its2, rv2, p2, lt2⟩ := seqX I1 hqy
      refine zip_begins2 (beginsX p a its.toArray) (beginsX q b its2.toArray) p1 p2 fun h' hz hTI hTO h1 h2 hsz hk => wpAny_pyIter_zip hz ?_
      have I2 : Inv X pins σ H1 { s1 with heap := h' } := I1.kept (t' := s1.toks) hk
      have lt1' : a < s1.heap.objs.size := lt1
      have lt2' : b < s1.heap.objs.size := lt2
      have n (m k : Nat) (h : m ≠ k := by omega) : s1.heap.objs.size + m ≠ s1.heap.objs.size + k := by omega
      have na (m : Nat) : a ≠ s1.heap.objs.size + m := fun z => by rw [z] at lt1'; exact absurd lt1' (Nat.not_lt.mpr (Nat.le_add_right _ _))
      have nb (m : Nat) : b ≠ s1.heap.objs.size + m := fun z => by rw [z] at lt2'; exact absurd lt2' (Nat.not_lt.mpr (Nat.le_add_right _ _))
      have sep : ZipSep2 (s1.heap.objs.size + 4) (s1.heap.objs.size + 2) (s1.heap.objs.size + 3) s1.heap.objs.size (s1.heap.objs.size + 1) [s1.heap.objs.size, a] [s1.heap.objs.size + 1, b] := {
        TIz := n 2 4
        TOz := n 3 4
        TITO := n 2 3
        TIi1 := n 2 0
        mem1 := by simp
        zf1 := fun h => by
          rcases List.mem_cons.mp h with h | h
          · exact n 4 0 (by omega) h
          · exact na 4 (List.mem_singleton.mp h).symm
        Tf1 := fun h => by
          rcases List.mem_cons.mp h with h | h
          · exact n 3 0 (by omega) h
          · exact na 3 (List.mem_singleton.mp h).symm
        TIi2 := n 2 1
        mem2 := by simp
        zf2 := fun h => by
          rcases List.mem_cons.mp h with h | h
          · exact n 4 1 (by omega) h
          · exact nb 4 (List.mem_singleton.mp h).symm
        Tf2 := fun h => by
          rcases List.mem_cons.mp h with h | h
          · exact n 3 1 (by omega) h
          · exact nb 3 (List.mem_singleton.mp h).symm
        sep1_2 := fun h => by
          rcases List.mem_cons.mp h with h | h
          · exact n 0 1 (by omega) h
          · exact nb 0 (List.mem_singleton.mp h).symm
        sep2_1 := fun h => by
          rcases List.mem_cons.mp h with h | h
          · exact n 1 0 (by omega) h
          · exact na 1 (List.mem_singleton.mp h).symm }
      exact ⟨s1.heap.objs.size + 4, [s1.heap.objs.size + 4, s1.heap.objs.size + 2, s1.heap.objs.size + 3, s1.heap.objs.size, s1.heap.objs.size + 1], _, _, H1, rfl, I2, turn_zipX sep (na 0) (nb 1), ⟨hz, hTI, ⟨_, _, hTO⟩, itOb_is h1, itOb_is h2⟩, fresh5, hq⟩
section
variable {X : Cx} {e a b : Expr} {ta tb : TE3} {p pos : Pos}
/-- what a sequence of data holds -/
def seqOf : T → Option (Bool × List PyData)
  | .d (.list l) => some (false, l)
  | .d (.tuple l) => some (true, l)
  | _ => none
def xZipX (ta tb : TE3) : TI3 := fun r R => ta r fun x r1 => tb r1 fun y r2 => ∃ l m, (seqOf x).map (·.2) = some l ∧ (seqOf y).map (·.2) = some m ∧ R (zipD l m) r2
theorem seqOf_sq {K : PySem.W.Frag} {Z : Hp} {r : Rho} {s : L2.St} {t : T} {v : V} {b : Bool} {l : List PyData} (h : seqOf t = some (b, l)) (p : Pv K Z r s t v) :
    ∃ a xs, v = .ref a ∧ (∀ Z', Sub Z Z' → SqX K b Z' a xs) ∧ DqAll K Z xs l := by
  unfold seqOf at h
  split at h
  · cases h
    have dx : Dq K Z v (.list l) := p
    cases dx with
    | lst hs ha => exact ⟨_, _, rfl, fun Z' z => SqL.of (z _ _ hs), ha⟩
  · cases h
    have dx : Dq K Z v (.tuple l) := p
    cases dx with
    | tup hs ha => exact ⟨_, _, rfl, fun Z' z => SqT.of (z _ _ hs), ha⟩
  · cases h
theorem i3_zipX {tpos : Pos} {elts : List Expr} {kk : Nat} (hg : Gl X "zip") (hm : X.mg "zip" = none) (ha : R3 X a ta) (hb : R3 X b tb) (hs : starEach [a, b] X.env = (false, eval a X.env) :: starEach [b] X.env := by rfl) (hs2 : starEach [b] X.env = (false, eval b X.env) :: starEach [] X.env := by rfl)
    (hpl : (backTo pos (starEach [b] X.env)).any (·.1) = false := by rfl) : I3 X (.Tuple elts kk tpos) (.Call (.Name "zip" p) [a, b] [] pos) (xZipX ta tb) := by
  obtain ⟨te, ee, se⟩ := ha.ex
  obtain ⟨tf, ef, sf⟩ := hb.ex
  refine ⟨_, pi_zipX hg hm (pa_cons ee (pa_cons ef pa_nil hs2) hs) hs hpl, fun G Z H ks vs r s R Q3 st ht k => se G Z H ks vs r s _ _ st ht fun Z1 H1 x v r1 g1 st1 pv qa => sf G Z1 H1 ks vs r1 s _ _ st1 qa fun Z2 H2 y u r2 g2 st2 pv2 q => ?_⟩
  have zl : ∀ (l m : List PyData) (i : Nat), (zipD l m).length ≤ i → l.length ≤ i ∨ m.length ≤ i := fun l m i h => by
    unfold zipD at h; rw [List.length_zipWith] at h; omega
  have zg : ∀ (l m : List PyData) (i : Nat) (x : PyData), (zipD l m)[i]? = some x → ∃ y z, l[i]? = some y ∧ m[i]? = some z ∧ x = .tuple [y, z] := fun l m i x h => by
    unfold zipD at h
    rw [List.getElem?_zipWith] at h
    cases e1 : l[i]? with
    | none => rw [e1] at h; cases h
    | some y =>
      cases e2 : m[i]? with
      | none => rw [e1, e2] at h; cases h
      | some z => rw [e1, e2] at h; exact ⟨y, z, rfl, rfl, (Option.some.inj h).symm⟩
  obtain ⟨l, m, e1, e2, q⟩ := q
  cases sx : seqOf x with
  | none => rw [sx] at e1; cases e1
  | some bl =>
    cases sy : seqOf y with
    | none => rw [sy] at e2; cases e2
    | some bm =>
      obtain ⟨b1, l'⟩ := bl
      obtain ⟨b2, m'⟩ := bm
      rw [sx] at e1; cases e1
      rw [sy] at e2; cases e2
      obtain ⟨a1, xs, rfl, hs1, ha1⟩ := seqOf_sq sx (pv.keep g2.sub)
      obtain ⟨a2, ys, rfl, hs2', ha2⟩ := seqOf_sq sy pv2
      refine ⟨b1, b2, a1, a2, xs, ys, rfl, hs1 _ st2.zh, hs2' _ st2.zh, k Z2 H2 _ _ r2 (g1.trans g2) st2 (fun Z' H i z zh => ⟨fun x hx => ?_, fun hi => ?_⟩) q⟩
      · obtain ⟨y, w, e1, e2, rfl⟩ := zg l' m' i x hx
        obtain ⟨vy, f1, d1⟩ := dpa_get ha1 e1
        obtain ⟨vw, f2, d2⟩ := dpa_get ha2 e2
        refine ⟨⟨xs, ys, vy, vw, hs1 _ (z.trans zh), hs2' _ (z.trans zh), f1, f2⟩, fun v' H' ⟨T0, x', y', h1, h2, h3, h4, h5⟩ => .inr ⟨T0, _, h2, h3, ?_⟩⟩
        have i1 := h4 xs (hs1 _ (z.trans zh))
        have i2 := h5 ys (hs2' _ (z.trans zh))
        rw [f1] at i1; cases i1
        rw [f2] at i2; cases i2
        rw [h1]
        have s : Sub Z' (upd Z' T0 (.tup [vy, vw])) := fun a o e => by rw [upd_ne (fun q => by rw [q] at e; have := zh _ _ e; rw [h2] at this; cases this)]; exact e
        exact .tup upd_same (.cons (dp_mono (z.trans s) _ _ d1) (.cons (dp_mono (z.trans s) _ _ d2) .nil))
      · exact ⟨xs, ys, hs1 _ (z.trans zh), hs2' _ (z.trans zh), by rw [← dpa_len ha1, ← dpa_len ha2]; exact zl l' m' i hi⟩
end
end L3
/-! t[::2] of a tuple of three -/
namespace L3
open PySem PySem.Spec PyProof.Rows L2
end L3
set_option maxHeartbeats 1000000
/-! exceptions: raised, let out, caught and kept as values -/
namespace L3
open PySem PySem.Spec PyProof.Rows L2
/-! ### a def that may raise -/
section
variable {P : Program} {w : World} {K : PySem.W.Frag} {mg : Str → Option Value} {base : Heap}
/-- a def of the module that may raise, by its name -/
def CalX (P : Program) (w : World) (K : PySem.W.Frag) (mg : Str → Option Value) (base : Heap) (x : Str) (k : Nat) (ps : List Str) (sp : Sp3) : Prop :=
  ∃ f fd, FnOk P w K mg base (L2.CX P w) k f fd ps (lift K sp) ∧ mg x = some (.ref f) ∧ PySem.W.keepIn K (.ref f) = true ∧ Binds K fd ps []
theorem CalX.mono {x : Str} {j k : Nat} {ps : List Str} {sp : Sp3} (c : CalX P w K mg base x j ps sp) (h : j ≤ k) : CalX P w K mg base x k ps sp := by
  obtain ⟨f, fd, F, hm, hk, hb⟩ := c
  exact ⟨f, fd, ⟨F.len, fun A outer s H args us vs Q E hr => F.run A outer s H args us vs Q E (hr.mono h)⟩, hm, hk, hb⟩
end
end L3
set_option maxHeartbeats 1000000
/-! try: .. except X as e: .. : the caught one is kept as a value -/
namespace L3
open PySem PySem.Spec PyProof.Rows L2
section
variable {X : Cx} {x n : Str} {c : Value} {i : Nat} {body suite : List Stmt} {b₀ : Stmt} {np pos pos' : Pos} {tb : WX → TS} {ts : TS}
/-- a block's reading, told at once -/
def lowS (K : PySem.W.Frag) (W : WX) (t : TS3) : TS := fun D s H => ∃ (G Z : Hp) (r : Rho) (D3 : Ends3), S3 K G Z H [] [] r s ∧ t D3 r ∧ Imp K W G Z D3 D
theorem B3.low {X : Cx} {sts : List Stmt} {t : TS3} (h : B3 X sts t) {W : WX} (tk : Takes X W) : PSs X sts (lowS X.K W t) := by
  obtain ⟨te, ea, sa⟩ := h.ex W tk
  exact ⟨fun pins s σ H D I ⟨G, Z, r, D3, st, ht, im⟩ => ea.run pins s σ H D I (sa G Z H r σ D D3 st ht im)⟩
end
/-! ### isinstance of an exception -/
/-! ### the program's classes of refusals -/
end L3
namespace L3
open PySem PySem.Spec PyProof.Rows L2
/-- // by any divisor but 0 -/
def CDivF (_ j : Int) : Prop := j ≠ 0 ∧ j.natAbs.log2 < 9000
section
variable {X : Cx} {a b : Expr} {ta tb : TE3} {pos : Pos}
theorem op_fdivF : OpR X (binaryOp .FloorDiv) (rI CDivF fun i j => .int (i.fdiv j)) := opI fun _ _ _ _ _ _ _ hc q => floordiv_int hc.1 q (.inl (PyProof.noPylong_of_log2 hc.2))
abbrev kDivF : C2 := cI CDivF fun i j => .int (i.fdiv j)
theorem r3_fdivF (ha : R3 X a ta) (hb : R3 X b tb) : R3 X (.BinOp a .FloorDiv b pos) (x2 kDivF ta tb) := r3_op op_fdivF (con_I (fun _ _ h => h) fun _ _ _ => rfl) ha hb
end
end L3
/-! enumerate of a list or a tuple -/
namespace PySem
open Sem (wp)
set_option maxHeartbeats 1000000 in
theorem meets_enumerate_newB {v1 : Value} {o1 : Obj} {H1 : Heap → Prop} (B1 : Begins v1 o1 H1) :
    Meets (Builtin.«enumerate.__new__» ⟨[.type "enumerate", v1], []⟩) (fun _ R s => H1 s.heap ∧
      R (.ok (.ret (.ref (s.heap.push o1).objs.size))) { s with heap := (s.heap.push o1).push { cls := .type "enumerate", data := .fields #[.none, .bool false, .ref s.heap.objs.size, rawInt 0, .none, .none] } }) :=
  .of_wp fun prog w A R s h => by
    obtain ⟨hp, g, d, tk, os⟩ := s; obtain ⟨h1, h⟩ := h
    have hsub := sub_enumerate
    have q1 : ∀ {A' : Around} {E : Value → Shared → Prop} {Q : Value → Shared → Prop}, Q (.ref hp.objs.size) ⟨(hp.push o1), g, d, tk, os⟩ → wpAny (model prog w) A' (pyIter v1) Q E ⟨hp, g, d, tk, os⟩ :=
      fun q => B1.iter prog w _ _ ⟨hp, g, d, tk, os⟩ _ (B1.keeps _ _ h1 fun b o' e => e) q
    wp_walk
    refine wpAny_stack_any fun st => wpAny_pure ?_
    split
    · rename_i c _ _ _ _ _
      cases (c == Value.type "enumerate")
      · wp_walk using q1
        exact ⟨_, rfl, h⟩
      · wp_walk using q1
        exact ⟨_, rfl, h⟩
    · wp_walk using q1
      exact ⟨_, rfl, h⟩
theorem enumerate_begins {prog : Program} {w : World} {A : Around} {E : Value → Shared → Prop} {s : Shared} {v1 : Value} {o1 : Obj} {H1 : Heap → Prop} {Q : Value → Shared → Prop} (B1 : Begins v1 o1 H1) (h1 : H1 s.heap)
    (h : ∀ h', IsEnum h' (s.heap.objs.size + 1) s.heap.objs.size 0 .none → h'.get? s.heap.objs.size = some o1 → h'.objs.size = s.heap.objs.size + 2 →
      (∀ b o, s.heap.get? b = some o → h'.get? b = some o) → Q (.ref (s.heap.objs.size + 1)) { s with heap := h' }) :
    wpAny (model prog w) A (call (.type "enumerate") [v1]) Q E s := by
  refine callType_new F.called_enumerate (by decide) (F.typeCall_enumerate_1 _) (F.newCall_enumerate_1 _) (fun obj => F.args_object_init_2 obj _) F.entry_enumerate_new
    (meets_enumerate_newB B1) ⟨h1, ?_⟩
  have hz : (s.heap.push o1).objs.size = s.heap.objs.size + 1 := Heap.size_push ..
  show _ ∧ _
  rw [hz]
  have he : IsEnum ((s.heap.push o1).push
      { cls := .type "enumerate", data := .fields #[.none, .bool false, .ref s.heap.objs.size, rawInt 0, .none, .none] }) (s.heap.objs.size + 1) s.heap.objs.size 0 .none := by
    have := Heap.get?_push_size (s.heap.push o1)
      (o := { cls := .type "enumerate", data := .fields #[.none, .bool false, .ref s.heap.objs.size, rawInt 0, .none, .none] }) rfl
    rw [hz] at this; exact this
  exact ⟨⟨_, he, rfl⟩, h _ he (Heap.get?_push_of_some _ (Heap.get?_push_size _ B1.free)) (by rw [Heap.size_push, hz]) fun b o x => Heap.get?_push_of_some _ (Heap.get?_push_of_some _ x)⟩
end PySem
namespace L3
open PySem PySem.Spec PyProof.Rows L2 RZ
def IteX (K : PySem.W.Frag) (p : Bool) (a : Addr) : It :=
  ⟨fun i H => ∃ (xs : List V) (x : V), SqX K p H a xs ∧ xs[i]? = some x, fun i H v H' => ∃ T x, v = .ref T ∧ H T = none ∧ H' = upd H T (.tup [.int (i : Nat), x]) ∧ ∀ xs, SqX K p H a xs → xs[i]? = some x, fun i H => ∃ xs : List V, SqX K p H a xs ∧ xs.length ≤ i⟩
theorem turn_enumX {P : Program} {w : World} {K : PySem.W.Frag} {elts : List Expr} {kk : Nat} {tpos : Pos} {p : Bool} (a e it : Addr) (ne1 : a ≠ it) (ne2 : a ≠ e) :
    Turn P w K (.Tuple elts kk tpos) (IteX K p a) [e, it] e (fun i h => (∃ old, IsEnum h e it ((i : Nat) : Int) old) ∧ ItIs p h it a i ∧ e ≠ it) where
  mem := by simp
  obj := fun i h st b hb => by
    obtain ⟨⟨old, he⟩, hi, _⟩ := st
    obtain ⟨o, vs, ho, hd⟩ := hi.fields
    have e' : b = e ∨ b = it := by simpa using hb
    rcases e' with z | z
    · rw [z]; exact ⟨_, he, fun v q => nomatch q⟩
    · rw [z]; exact ⟨o, ho, fun v q => by rw [hd] at q; cases q⟩
  keep := fun i h h' st k => let ⟨⟨old, he⟩, hi, hne⟩ := st; ⟨⟨old, k e (by simp) _ he⟩, hi.at fun o q => k it (by simp) o q, hne⟩
  item := by
    intro X hP hw hK hc i pins s σ H E I hf st hg
    subst hP hw hK
    obtain ⟨⟨old, he⟩, hit, hne⟩ := st
    obtain ⟨xs, x, hq, hx⟩ := hg
    obtain ⟨its, rv, p1, _⟩ := seqX I hq
    obtain ⟨u, hu, ru⟩ := rv.get hx
    have hel : e < s.heap.objs.size := Heap.lt_size he
    have hil : it < s.heap.objs.size := by obtain ⟨_, _, q, _⟩ := hit.fields; exact Heap.lt_size q
    have s1 : i < its.toArray.size := by have := (List.getElem?_eq_some_iff.mp hu).1; simpa using this
    refine wpAny_pyNext_enum_itemD (drawsX (A := X.A.in1) (I.ok.hd hc) p it a ne1 its.toArray) he ⟨hit, p1⟩ s1 hne (by simp [hne, Ne.symm ne2]) fun w1 h' tk y1 ho hit' hT hsz hk => ?_
    have e1 : w1 = u := by
      have : its.toArray[i]? = some w1 := y1
      rw [List.getElem?_toArray, hu] at this
      cases this; rfl
    subst e1
    refine ⟨_, rfl, wpAny_letOwnedTupleGo_enum (s := { s with heap := h', toks := tk + 1 }) ho fun h'' he' sb => ?_⟩
    have hT2 : h''.get? s.heap.objs.size = some { cls := .type "tuple", data := .seq #[.int i tk, w1] } := (sb.2 _ (Nat.ne_of_gt hel)).trans hT
    have new : ObjOk X.prog X.w (upd H s.heap.objs.size (.tup [.int (i : Nat), x])) h'' s.heap.objs.size (.tup [.int (i : Nat), x]) :=
      ⟨by show 2 ≤ sizeLine; decide, [.int i tk, w1], .cons ⟨_, rfl⟩ (.cons ru .nil), ⟨_, hT2, rfl, _, rfl⟩⟩
    have I1 : Inv X pins σ (upd H s.heap.objs.size (.tup [.int (i : Nat), x])) { s with heap := h'', toks := tk + 1 } :=
      I.turnedNew (t' := tk + 1) (ch := [e, it]) (fun b ob hb q => (sb.2 b (fun z => hb (by simp [z]))).trans (hk b ob (fun z => hb (by simp [z])) (fun z => hb (by simp [z])) q)) hf (Nat.le_refl _) new
    refine ⟨.ref s.heap.objs.size, _, I1, rfl, ⟨_, x, rfl, I.hok.fresh (Nat.le_refl _), rfl, fun ys hy => by rw [seqX_inj I hy hq]; exact hx⟩, ⟨⟨w1, ?_⟩, hit'.1.at fun o q => (sb.2 it (Ne.symm hne)).trans q, hne⟩, fun b hb => ?_⟩
    · have e1 : ((i + 1 : Nat) : Int) = (i : Int) + 1 := by omega
      rw [e1]; exact he'
    · have hb' : b < s.heap.objs.size := by
        have e' : b = e ∨ b = it := by simpa using hb
        rcases e' with z | z
        · rw [z]; exact hel
        · rw [z]; exact hil
      rw [upd_ne (Nat.ne_of_lt hb')]
      exact (hf b hb).1
  done := by
    intro X hP hw hK hc i pins s σ H E I hf st hg
    subst hP hw hK
    obtain ⟨⟨old, he⟩, hit, hne⟩ := st
    obtain ⟨xs, hq, hx⟩ := hg
    obtain ⟨its, rv, p1, _⟩ := seqX I hq
    obtain ⟨f0, f1, f2, f3, f4, f5⟩ := hf it (by simp)
    have hl := rv.length
    obtain ⟨n1, P1, St1, D1, a1, b1, c1⟩ := drawsAt (prog := X.prog) (w := X.w) (A := X.A.in1) (I.ok.hd hc) p it a ne1 its.toArray i
    have en : i = n1 := b1 (by simp; omega)
    have st1 : St1 n1 s.heap := by rw [← en]; exact c1 _ hit p1
    exact wpAny_pyNext_enum_endD D1 he st1 fun h' eb => ⟨rfl, I.turned (t' := s.toks) (fun b o hb q => eb b o hb q) f0 f1 f3 f4 f5⟩
  self := fun A i s Q E st h => let ⟨⟨_, he⟩, _⟩ := st; wpAny_pyIter_enum he h
def iEnumX (K : PySem.W.Frag) (ta : TA) : TI := fun σ H R => ta σ H fun vs H1 => ∃ p a xs, vs = [.ref a] ∧ SqX K p H1 a xs ∧ R (IteX K p a) H1
theorem pi_enumX {X : Cx} {e : Expr} {ta : TA} {p pos tpos : Pos} {elts : List Expr} {kk : Nat} (hg : Gl X "enumerate") (hm : X.mg "enumerate" = none) (ha : PA X [e] ta) (hs : starEach [e] X.env = [(false, eval e X.env)] := by rfl) :
    PI X (.Tuple elts kk tpos) (.Call (.Name "enumerate" p) [e] [] pos) (iEnumX X.K ta) := by
  refine ⟨fun pins s σ H R I h => ?_⟩
  refine Call_ (ld_blt I hg hm boot_enumerate (PyProof.Rows.callWith_type1 (thn (ha.run pos pins s σ H _ I h) fun us s1 ⟨vs, H1, I1, r1, q1⟩ => ?_) hs rfl))
  obtain ⟨p, a, xs, ex, hq, q⟩ := q1
  subst ex
  cases r1 with
  | cons r rr =>
    cases rr
    cases r
    obtain ⟨its, rv, p', lt⟩ := seqX I1 hq
    refine enumerate_begins (beginsX p a its.toArray) p' fun h' he hit hsz hk => wpAny_pyIter_enum he ?_
    have I2 : Inv X pins σ H1 { s1 with heap := h' } := I1.kept (t' := s1.toks) hk
    have lt' : a < s1.heap.objs.size := lt
    refine ⟨s1.heap.objs.size + 1, [s1.heap.objs.size + 1, s1.heap.objs.size], _, _, H1, rfl, I2, turn_enumX a (s1.heap.objs.size + 1) s1.heap.objs.size (Nat.ne_of_lt lt') (Nat.ne_of_lt (Nat.lt_succ_of_lt lt')), ⟨⟨.none, he⟩, itOb_is hit, Nat.succ_ne_self _⟩, fun b hb => ?_, q⟩
    have e' : b = s1.heap.objs.size + 1 ∨ b = s1.heap.objs.size := by simpa using hb
    have hle : s1.heap.objs.size ≤ b := by
      rcases e' with z | z
      · rw [z]; exact Nat.le_add_right _ _
      · rw [z]; exact Nat.le_refl _
    exact I1.fpOk hle (I1.hok.fresh hle)
section
variable {X : Cx} {a : Expr} {ta : TE3} {p pos : Pos}
def xEnumX (t : TE3) : TI3 := fun r R => t r fun x r' => ∃ l, (seqOf x).map (·.2) = some l ∧ R (enumD l) r'
theorem i3_enumX {tpos : Pos} {elts : List Expr} {kk : Nat} (hg : Gl X "enumerate") (hm : X.mg "enumerate" = none) (ha : R3 X a ta) (hs : starEach [a] X.env = [(false, eval a X.env)] := by rfl) (hs2 : starEach [a] X.env = (false, eval a X.env) :: starEach [] X.env := by rfl) :
    I3 X (.Tuple elts kk tpos) (.Call (.Name "enumerate" p) [a] [] pos) (xEnumX ta) := by
  obtain ⟨te, ee, se⟩ := ha.ex
  refine ⟨_, pi_enumX hg hm (pa_cons ee pa_nil hs2) hs, fun G Z H ks vs r s R Q3 st ht k => se G Z H ks vs r s _ _ st ht fun Z1 H1 x v r1 g1 st1 pv q => ?_⟩
  obtain ⟨l, e1, q⟩ := q
  cases sx : seqOf x with
  | none => rw [sx] at e1; cases e1
  | some bl =>
    obtain ⟨b1, l'⟩ := bl
    rw [sx] at e1; cases e1
    obtain ⟨a1, xs, rfl, hs1, ha1⟩ := seqOf_sq sx pv
    refine ⟨b1, a1, xs, rfl, hs1 _ st1.zh, k Z1 H1 _ _ r1 g1 st1 (fun Z' H' i z zh => ⟨fun x hx => ?_, fun hi => ?_⟩) q⟩
    · obtain ⟨y, e1, rfl⟩ := enumD_get hx
      obtain ⟨vy, f1, d1⟩ := dpa_get ha1 e1
      refine ⟨⟨xs, vy, hs1 _ (z.trans zh), f1⟩, fun v' H' ⟨T0, x', h1, h2, h3, h4⟩ => .inr ⟨T0, _, h2, h3, ?_⟩⟩
      have i1 := h4 xs (hs1 _ (z.trans zh))
      rw [f1] at i1; cases i1
      rw [h1]
      have s : Sub Z' (upd Z' T0 (.tup [.int (i : Nat), vy])) := fun a o e => by rw [upd_ne (fun q => by rw [q] at e; have := zh _ _ e; rw [h2] at this; cases this)]; exact e
      exact .tup upd_same (.cons (.int _) (.cons (dp_mono s _ _ (dp_mono z _ _ d1)) .nil))
    · exact ⟨xs, hs1 _ (z.trans zh), by rw [← dpa_len ha1]; rw [enumD_len] at hi; exact hi⟩
end
end L3
namespace L3
open PySem PySem.Spec PyProof.Rows L2
/-! % by any divisor but 0 -/
end L3
/-! a tuple so many times, also once and none; l.extend -/
namespace L3
open PySem PySem.Spec PyProof.Rows L2
end L3
namespace L3
open PySem PySem.Spec PyProof.Rows L2
/-! ### is not b, of truths -/
/-! ### isinstance of an exception and some classes -/
/-! ### a test that may raise -/
end L3
namespace L3
open PySem PySem.Spec PyProof.Rows L2
/-! ### a list of data, read -/
/-! ### min of a list of data that have a type of ours -/
/-! ### sorted of such a list -/
/-! ### all of a list of truths -/
/-! ### x[i][j] op= e, both lists of one's own -/
end L3
namespace PySem
open Sem (wp)
/-! zip of four, by the cells -/
/-- the objects of a zip of 4 lie apart -/
structure Sep4 (zz TI TO i1 i2 i3 i4 : Addr) (fp1 fp2 fp3 fp4 : List Addr) : Prop where
  tz : TI ≠ zz
  oz : TO ≠ zz
  to : TI ≠ TO
  ti1 : TI ≠ i1
  mm1 : i1 ∈ fp1
  zf1 : zz ∉ fp1
  of1 : TO ∉ fp1
  ti2 : TI ≠ i2
  mm2 : i2 ∈ fp2
  zf2 : zz ∉ fp2
  of2 : TO ∉ fp2
  ti3 : TI ≠ i3
  mm3 : i3 ∈ fp3
  zf3 : zz ∉ fp3
  of3 : TO ∉ fp3
  ti4 : TI ≠ i4
  mm4 : i4 ∈ fp4
  zf4 : zz ∉ fp4
  of4 : TO ∉ fp4
  ap12 : i1 ∉ fp2
  ap13 : i1 ∉ fp3
  ap14 : i1 ∉ fp4
  ap21 : i2 ∉ fp1
  ap23 : i2 ∉ fp3
  ap24 : i2 ∉ fp4
  ap31 : i3 ∉ fp1
  ap32 : i3 ∉ fp2
  ap34 : i3 ∉ fp4
  ap41 : i4 ∉ fp1
  ap42 : i4 ∉ fp2
  ap43 : i4 ∉ fp3
section
variable {prog : Program} {w : World} {A : Around} {E : Value → Shared → Prop} {s : Shared} {zz TI TO i1 i2 i3 i4 : Addr} {fp1 fp2 fp3 fp4 : List Addr} {n1 n2 n3 n4 i : Nat} {P1 P2 P3 P4 : Nat → Value → Prop} {St1 St2 St3 St4 : Nat → Heap → Prop} {a1 a2 a3 a4 : Value}
theorem Sep4.zi1 (D : Sep4 zz TI TO i1 i2 i3 i4 fp1 fp2 fp3 fp4) : zz ≠ i1 := fun e => D.zf1 (e ▸ D.mm1)
theorem Sep4.zi2 (D : Sep4 zz TI TO i1 i2 i3 i4 fp1 fp2 fp3 fp4) : zz ≠ i2 := fun e => D.zf2 (e ▸ D.mm2)
end
end PySem
namespace L3
open PySem PySem.Spec PyProof.Rows L2 RZ
/-! zip of three and of four sequences, each a list or a tuple -/
end L3
namespace L3
open PySem PySem.Spec PyProof.Rows L2
theorem shp_nilL : SeqAt.shaped (.list []) = true := rfl
theorem pz {j : Int} (h : 0 < j := by decide) : 0 < j := h
theorem nd0 : ([] : List Nat).Nodup := List.nodup_nil
theorem nd1 {i : Nat} : [i].Nodup := by simp
theorem sz (n : Nat) (h : n ≤ 1000 := by decide) : n ≤ sizeLine := Nat.le_trans h (by decide)
theorem dT {p : Prop} [Decidable p] (h : decide p = true) : p := of_decide_eq_true h
theorem dF {p : Prop} [Decidable p] (h : decide p = false) : ¬ p := of_decide_eq_false h
local macro_rules | `(tactic| wtm_at "sh") => `(tactic| conv => whnf)
/-! ## sizes, data -/
/-- below 2 ^ n -/
def Sz (n : Nat) (i : Int) : Prop := i.natAbs < 2 ^ n
theorem Sz.log {n : Nat} {i : Int} (h : Sz n i) : i.natAbs.log2 ≤ n := by
  by_cases e : i.natAbs = 0
  · rw [e]; exact Nat.zero_le _
  · exact Nat.le_of_lt_succ (Nat.lt_succ_of_lt ((Nat.log2_lt e).mpr h))
theorem Sz.mono {n m : Nat} {i : Int} (h : Sz n i) (k : n ≤ m) : Sz m i := Nat.lt_of_lt_of_le h (Nat.pow_le_pow_right (by decide) k)
theorem Sz.mul {n m : Nat} {i j : Int} (h : Sz n i) (k : Sz m j) : Sz (n + m) (i * j) := by
  unfold Sz at *
  rw [Int.natAbs_mul, Nat.pow_add]
  exact Nat.mul_lt_mul'' h k
theorem Sz.add {n : Nat} {i j : Int} (h : Sz n i) (k : Sz n j) : Sz (n + 1) (i + j) := by
  unfold Sz at *
  rw [Nat.pow_succ]
  omega
theorem Sz.sub {n : Nat} {i j : Int} (h : Sz n i) (k : Sz n j) : Sz (n + 1) (i - j) := by
  unfold Sz at *
  rw [Nat.pow_succ]
  omega
theorem Sz.neg {n : Nat} {i : Int} (h : Sz n i) : Sz n (-i) := by
  unfold Sz at *
  rw [Int.natAbs_neg]; exact h
theorem Sz.le {n : Nat} {i j : Int} (h : Sz n j) (k : i.natAbs ≤ j.natAbs) : Sz n i := Nat.lt_of_le_of_lt k h
theorem mulOk {n m : Nat} {i j : Int} (h : Sz n i) (k : Sz m j) (hn : n + m < 1000000) : MulOk i j := .inr (by
  have h1 := h.log
  have h2 := k.log
  unfold CMulW
  omega)
theorem mulOkL {i j : Int} (h : -(2 ^ 64) < i) (k : i < 2 ^ 64) : MulOk i j := .inl (.inl ⟨h, k⟩)
theorem mulOkR {i j : Int} (h : -(2 ^ 64) < j) (k : j < 2 ^ 64) : MulOk i j := .inl (.inr ⟨h, k⟩)
theorem divOk {n : Nat} {i j : Int} (h0 : 0 < j) (h : Sz n j) (hn : n < 9000) : CDivW i j := ⟨h0, Nat.lt_of_le_of_lt h.log hn⟩
theorem Sz.div {n : Nat} {i j : Int} (h : Sz n i) (h0 : 0 < j) : Sz n (i / j) := by
  refine h.le ?_
  have h1 : (i / j).natAbs ≤ i.natAbs := by
    rcases Int.lt_or_le i 0 with hi | hi
    · have a1 : i / j < 0 := Int.ediv_neg_of_neg_of_pos hi h0
      have a2 : i ≤ i / j := by
        have := Int.mul_ediv_add_emod i j
        have h3 := Int.emod_nonneg i (by omega : j ≠ 0)
        have h4 : j * (i / j) ≤ i / j := by
          have : (j - 1) * (i / j) ≤ 0 := Int.mul_nonpos_of_nonneg_of_nonpos (by omega) (by omega)
          rw [Int.sub_mul] at this
          omega
        have h5 := Int.emod_lt_of_pos i h0
        have h6 : j * (i / j) > i - j := by omega
        have h7 : j * (i / j) ≥ j * i := Int.mul_le_mul_of_nonneg_left (by
          have := Int.le_ediv_of_mul_le (a := i) (b := i) h0 (by
            have : i * j ≤ i * 1 := Int.mul_le_mul_of_nonpos_left (by omega) (by omega)
            omega)
          exact this) (by omega)
        exact Int.le_ediv_of_mul_le h0 (by
          have : i * j ≤ i * 1 := Int.mul_le_mul_of_nonpos_left (by omega) (by omega)
          omega)
      omega
    · have a1 : 0 ≤ i / j := Int.ediv_nonneg hi (by omega)
      have a2 : i / j ≤ i := Int.ediv_le_self j hi
      omega
  exact h1
/-- its numbers: below from 1 on, none too long -/
def OkA (l : List (Int × Int)) : Prop := ∀ p ∈ l, 0 < p.2 ∧ Sz 2000 p.1 ∧ Sz 2000 p.2
/-! ## near.py -/
/-- in least numbers -/
def inL (a b : Int) : Int × Int := (a / Int.gcd a b, b / Int.gcd a b)
/-- the nearest whole number, the lesser one of two as near, and how far off -/
def near (a b : Int) : Int × Int := if 2 * (a - a / b * b) ≤ b then (a / b, a - a / b * b) else (a / b + 1, b - (a - a / b * b))
def isMore (x y : Int × Int) : Bool := decide (y.1 * x.2 < x.1 * y.2)
/-- the greatest of the distances, a fraction, not in least numbers -/
def missS (q : Int) (m : Int × Int) (p : Int × Int) : Int × Int := if isMore ((near (q * p.1) p.2).2, p.2) m then ((near (q * p.1) p.2).2, p.2) else m
def missF (l : List (Int × Int)) (q : Int) : Int × Int := l.foldl (missS q) (0, 1)
def missL (l : List (Int × Int)) (q : Int) : Int × Int := inL (missF l q).1 (missF l q).2
theorem near_off {a b : Int} (hb : 0 < b) : 0 ≤ (near a b).2 ∧ (near a b).2 ≤ b := by
  have h1 := Int.emod_nonneg a (by omega : b ≠ 0)
  have h2 := Int.emod_lt_of_pos a hb
  have h3 : a - a / b * b = a % b := by
    have := Int.mul_ediv_add_emod a b
    rw [Int.mul_comm b] at this
    omega
  unfold near
  rw [h3]
  split
  · exact ⟨h1, by show a % b ≤ b; omega⟩
  · constructor
    · show 0 ≤ b - a % b; omega
    · show b - a % b ≤ b; omega
/-- a miss on the way: its number below is 1 or one of the asking's -/
theorem missF_ok {l : List (Int × Int)} {q : Int} : ∀ {m : Int × Int}, (∀ p ∈ l, 0 < p.2) → 0 ≤ m.1 → m.1 ≤ m.2 → 0 < m.2 → (m.2 = 1 ∨ ∃ p, p ∈ l ∧ m.2 = p.2) → ∀ l', l' ⊆ l → 0 ≤ (l'.foldl (missS q) m).1 ∧ (l'.foldl (missS q) m).1 ≤ (l'.foldl (missS q) m).2 ∧ 0 < (l'.foldl (missS q) m).2 ∧ ((l'.foldl (missS q) m).2 = 1 ∨ ∃ p, p ∈ l ∧ (l'.foldl (missS q) m).2 = p.2) := by
  intro m hp h0 h1 h2 h3 l'
  induction l' generalizing m with
  | nil => intro _; exact ⟨h0, h1, h2, h3⟩
  | cons p l' ih =>
    intro hs
    have hm : p ∈ l := hs (List.mem_cons_self ..)
    rw [List.foldl_cons]
    have hn := near_off (a := q * p.1) (hp p hm)
    unfold missS
    split
    · exact ih hn.1 hn.2 (hp p hm) (.inr ⟨p, hm, rfl⟩) fun x hx => hs (List.mem_cons_of_mem _ hx)
    · exact ih h0 h1 h2 h3 fun x hx => hs (List.mem_cons_of_mem _ hx)
theorem missF_take {l : List (Int × Int)} {q : Int} (hp : ∀ p ∈ l, 0 < p.2) (i : Nat) : 0 ≤ (missF (l.take i) q).1 ∧ (missF (l.take i) q).1 ≤ (missF (l.take i) q).2 ∧ 0 < (missF (l.take i) q).2 ∧ ((missF (l.take i) q).2 = 1 ∨ ∃ p, p ∈ l ∧ (missF (l.take i) q).2 = p.2) :=
  missF_ok (l := l) (m := (0, 1)) hp (by decide) (by decide) (by decide) (.inl rfl) _ (fun x hx => List.mem_of_mem_take hx)
theorem take_succ {α : Type} {l : List α} {i : Nat} {x : α} (h : l[i]? = some x) : l.take (i + 1) = l.take i ++ [x] := by
  rw [List.take_add_one, h]; rfl
end L3
namespace L3
open PySem PySem.Spec PyProof.Rows L2
local macro_rules | `(tactic| wtm_at "sh") => `(tactic| conv => whnf)
/-! ## the deck -/
theorem getI_of {α : Type} {l : List α} {i : Int} (h0 : 0 ≤ i) (h1 : i < l.length) : ∃ x, getI l i = some x ∧ l[i.toNat]? = some x ∧ x ∈ l := by
  unfold getI
  rw [if_pos h0]
  have : i.toNat < l.length := by omega
  exact ⟨l[i.toNat], List.getElem?_eq_getElem this, List.getElem?_eq_getElem this, List.getElem_mem this⟩
def DeckOk (n : Nat) (l : List T) : Prop := ∃ (c : Addr) (cells : List Int) (i s : Int), l = [.own c (cells.map fun x => .d (.int x)), .d (.int i), .d (.int s)] ∧ 0 < cells.length ∧ cells.length ≤ 64 ∧ 0 ≤ i ∧ i + n ≤ 1000000000 ∧ 0 ≤ s ∧ s < 2147483648
theorem DeckOk.mono {n m : Nat} {l : List T} (h : DeckOk n l) (k : m ≤ n) : DeckOk m l := by
  obtain ⟨c, cells, i, s, e, h1, h2, h3, h4, h5⟩ := h
  exact ⟨c, cells, i, s, e, h1, h2, h3, by omega, h5⟩
def FrOk (p : Int × Int) : Prop := 0 < p.2 ∧ p.2 ≤ 100000000000000000000 ∧ -1000000000000000000000 ≤ p.1 ∧ p.1 ≤ 1000000000000000000000
theorem two {l : List PyData} {a b : PyData} {x : Int} (e : l = [a, b]) (h0 : 0 ≤ x) (h1 : x < 2) : ∃ z, getI l x = some z ∧ (z = a ∨ z = b) := by
  subst e
  have : x = 0 ∨ x = 1 := by omega
  rcases this with rfl | rfl
  · exact ⟨a, rfl, .inl rfl⟩
  · exact ⟨b, rfl, .inr rfl⟩
end L3
namespace L3
open PySem PySem.Spec PyProof.Rows L2
local macro_rules | `(tactic| wtm_at "sh") => `(tactic| conv => whnf)
theorem FrOk.ok {l : List (Int × Int)} (h : ∀ p ∈ l, FrOk p) : OkA l := fun p hp => by
  obtain ⟨h1, h2, h3, h4⟩ := h p hp
  exact ⟨h1, by unfold Sz; exact Nat.lt_of_lt_of_le (show p.1.natAbs < 2 ^ 80 by omega) (Nat.pow_le_pow_right (by decide) (by decide)), by unfold Sz; exact Nat.lt_of_lt_of_le (show p.2.natAbs < 2 ^ 80 by omega) (Nat.pow_le_pow_right (by decide) (by decide))⟩
end L3
namespace L3
open PySem PySem.Spec PyProof.Rows L2
local macro_rules | `(tactic| wtm_at "sh") => `(tactic| conv => whnf)
/-- plain nested data of no more than n layers -/
def Nest : Nat → PyData → Prop
  | 0, _ => False
  | _ + 1, .none => True
  | _ + 1, .int _ => True
  | _ + 1, .str i => SeqAt.shaped (.str i) = true
  | n + 1, .tuple l => l.length < sizeLine ∧ ∀ x ∈ l, Nest n x
  | n + 1, .list l => l.length < sizeLine ∧ ∀ x ∈ l, Nest n x
  | _ + 1, _ => False
end L3
namespace L3
open PySem PySem.Spec PyProof.Rows L2
local macro_rules | `(tactic| wtm_at "sh") => `(tactic| conv => whnf)
end L3
namespace L3
open PySem PySem.Spec PyProof.Rows L2
local macro_rules | `(tactic| wtm_at "sh") => `(tactic| conv => whnf)
/-! ## nested data once more -/
theorem nest_lay : ∀ (n : Nat) (x : PyData), Nest n x → PyData.canLay0 x = true ∧ PyData.depth x ≤ n
  | 0, _, h => h.elim
  | n + 1, x, h => by
    have all : ∀ l : List PyData, (∀ y ∈ l, Nest n y) → PyData.canLayAll0 l = true ∧ PyData.depthAll l ≤ n := by
      intro l
      induction l with
      | nil => intro _; exact ⟨by simp [PyData.canLayAll0], by simp [PyData.depthAll]⟩
      | cons y l ih =>
        intro hl
        obtain ⟨h1, h2⟩ := nest_lay n y (hl y (by simp))
        obtain ⟨h3, h4⟩ := ih fun z hz => hl z (List.mem_cons_of_mem _ hz)
        refine ⟨by simp [PyData.canLayAll0, h1, h3], ?_⟩
        rw [PyData.depthAll]; omega
    cases x with
    | none => exact ⟨by simp [PyData.canLay0], by simp [PyData.depth]⟩
    | int i => exact ⟨by simp [PyData.canLay0], by simp [PyData.depth]⟩
    | str i =>
      refine ⟨?_, by simp [PyData.depth]⟩
      have h1 : SeqAt.shaped (.str i) = true := h
      unfold SeqAt.shaped at h1
      rw [Bool.and_eq_true] at h1
      exact h1.1
    | tuple l =>
      obtain ⟨h1, h2⟩ := all l h.2
      refine ⟨by simpa [PyData.canLay0] using h1, ?_⟩
      rw [PyData.depth]; omega
    | list l =>
      obtain ⟨h1, h2⟩ := all l h.2
      refine ⟨by simpa [PyData.canLay0] using h1, ?_⟩
      rw [PyData.depth]; omega
    | bool b => exact h.elim
    | dict l => exact h.elim
theorem nest_shaped {n : Nat} {x : PyData} (h : Nest n x) (hn : n ≤ 64) : SeqAt.shaped x = true := by
  obtain ⟨h1, h2⟩ := nest_lay n x h
  unfold SeqAt.shaped
  rw [Bool.and_eq_true]
  exact ⟨h1, decide_eq_true (by omega)⟩
/-! ## best.py: the best ones -/
/-- one miss is less than another: the later one than the one ahead -/
def lessM (l : List (Int × Int)) (p q : Int) : Bool := isMore (missL l p) (missL l q)
def bestS (l : List (Int × Int)) (acc : List Int) (q : Int) : List Int := if acc = [] ∨ (∃ p, acc.getLast? = some p ∧ lessM l p q = true) then acc ++ [q] else acc
instance (l : List (Int × Int)) (acc : List Int) (q : Int) : Decidable (acc = [] ∨ (∃ p, acc.getLast? = some p ∧ lessM l p q = true)) := by
  cases h : acc.getLast? with
  | none => exact .isTrue (.inl (by simpa using h))
  | some p =>
    by_cases e : lessM l p q = true
    · exact .isTrue (.inr ⟨p, rfl, e⟩)
    · refine .isFalse fun h2 => ?_
      rcases h2 with h2 | ⟨p', h3, h4⟩
      · subst h2; cases h
      · cases h3; exact e h4
/-- the best numbers up to n -/
def bestL (l : List (Int × Int)) : Nat → List Int
  | 0 => []
  | n + 1 => bestS l (bestL l n) (n + 1 : Nat)
theorem missL_ok {l : List (Int × Int)} {q : Int} (ok : OkA l) : 0 ≤ (missL l q).1 ∧ 0 < (missL l q).2 ∧ Sz 2000 (missL l q).1 ∧ Sz 2000 (missL l q).2 := by
  have m0 := missF_take (q := q) (fun p hp => (ok p hp).1) l.length
  rw [List.take_length] at m0
  obtain ⟨h0, h1, h2, h3⟩ := m0
  have sm : Sz 2000 (missF l q).2 := by
    rcases h3 with e | ⟨p, hp, e⟩
    · rw [e]; exact (show Sz 2 1 from by unfold Sz; decide).mono (by decide)
    · rw [e]; exact (ok p hp).2.2
  have hg : 0 < (Int.gcd (missF l q).1 (missF l q).2 : Int) := by
    have : Int.gcd (missF l q).1 (missF l q).2 ≠ 0 := fun e => by
      rw [Int.gcd_eq_zero_iff] at e
      omega
    omega
  have hd : (Int.gcd (missF l q).1 (missF l q).2 : Int) ≤ (missF l q).2 := Int.le_of_dvd h2 (Int.gcd_dvd_right ..)
  refine ⟨Int.ediv_nonneg h0 (by omega), ?_, (sm.le (by omega)).div hg, sm.div hg⟩
  have : 1 ≤ (missF l q).2 / (Int.gcd (missF l q).1 (missF l q).2 : Int) := Int.le_ediv_of_mul_le hg (by omega)
  show 0 < (missF l q).2 / (Int.gcd (missF l q).1 (missF l q).2 : Int)
  omega
end L3
namespace L3
open PySem PySem.Spec PyProof.Rows L2
local macro_rules | `(tactic| wtm_at "sh") => `(tactic| conv => whnf)
end L3
namespace L3
open PySem PySem.Spec PyProof.Rows L2
local macro_rules | `(tactic| wtm_at "sh") => `(tactic| conv => whnf)
/-! ## best.py: the next better one -/
end L3
namespace L3
open PySem PySem.Spec PyProof.Rows L2
local macro_rules | `(tactic| wtm_at "sh") => `(tactic| conv => whnf)
/-! ## the best ones: what stands in their list -/
end L3
namespace L3
open PySem PySem.Spec PyProof.Rows L2
local macro_rules | `(tactic| wtm_at "sh") => `(tactic| conv => whnf)
end L3
namespace L3
open PySem PySem.Spec PyProof.Rows L2
local macro_rules | `(tactic| wtm_at "sh") => `(tactic| conv => whnf)
/-! ## one fraction: how far off -/
def dst (a b q : Int) : Int := if 2 * (q * a % b) ≤ b then q * a % b else b - q * a % b
theorem dst_le {a b q : Int} (t : Int) (hb : 0 < b) : dst a b q ≤ (q * a - t * b).natAbs := by
  have h1 := Int.emod_nonneg (q * a) (show b ≠ 0 by omega)
  have h2 := Int.emod_lt_of_pos (q * a) hb
  have h3 : q * a = b * (q * a / b) + q * a % b := (Int.mul_ediv_add_emod (q * a) b).symm
  unfold dst
  generalize q * a % b = r at *
  generalize q * a / b = f at *
  have h4 : q * a - t * b = (f - t) * b + r := by rw [h3]; grind
  rw [h4]
  generalize f - t = x at *
  rcases Int.lt_trichotomy x 0 with h | h | h
  · have : x * b ≤ (-1) * b := Int.mul_le_mul_of_nonneg_right (by omega) (by omega)
    split <;> omega
  · subst h
    rw [Int.zero_mul]
    split <;> omega
  · have : 1 * b ≤ x * b := Int.mul_le_mul_of_nonneg_right (by omega) (by omega)
    split <;> omega
theorem dst_at (a b q : Int) (hb : 0 < b) : ∃ t, dst a b q = (q * a - t * b).natAbs := by
  have h1 := Int.emod_nonneg (q * a) (show b ≠ 0 by omega)
  have h2 := Int.emod_lt_of_pos (q * a) hb
  have h3 : q * a = b * (q * a / b) + q * a % b := (Int.mul_ediv_add_emod (q * a) b).symm
  unfold dst
  generalize q * a % b = r at *
  generalize q * a / b = f at *
  split
  · exact ⟨f, by
      have : q * a - f * b = r := by rw [h3]; grind
      rw [this]; omega⟩
  · exact ⟨f + 1, by
      have : q * a - (f + 1) * b = r - b := by rw [h3]; grind
      rw [this]; omega⟩
theorem dst_nonneg (a b q : Int) (hb : 0 < b) : 0 ≤ dst a b q := by
  obtain ⟨t, e⟩ := dst_at a b q hb
  omega
/-- the miss of one fraction is its distance -/
theorem missL_one {A B : Int} (hB : 0 < B) (q : Int) : (missL [(A, B)] q).1 * (inL A B).2 = dst (inL A B).1 (inL A B).2 q * (missL [(A, B)] q).2 := by
  have hg : 0 < (Int.gcd A B : Int) := by
    have : Int.gcd A B ≠ 0 := fun e => by rw [Int.gcd_eq_zero_iff] at e; omega
    omega
  have eA : A = Int.gcd A B * (inL A B).1 := (Int.mul_ediv_cancel' (Int.gcd_dvd_left ..)).symm
  have eB : B = Int.gcd A B * (inL A B).2 := (Int.mul_ediv_cancel' (Int.gcd_dvd_right ..)).symm
  have hb : 0 < (inL A B).2 := by
    rcases Int.lt_or_le 0 (inL A B).2 with h | h
    · exact h
    · have := Int.mul_nonpos_of_nonneg_of_nonpos (Int.le_of_lt hg) h
      omega
  have en : (near (q * A) B).2 = Int.gcd A B * dst (inL A B).1 (inL A B).2 q := by
    generalize (inL A B).1 = a at *
    generalize (inL A B).2 = b at *
    generalize (Int.gcd A B : Int) = g at *
    subst eA
    subst eB
    have h1 := Int.emod_nonneg (q * a) (show b ≠ 0 by omega)
    have h2 := Int.emod_lt_of_pos (q * a) hb
    have e1 : q * (g * a) - q * (g * a) / (g * b) * (g * b) = g * (q * a % b) := by
      have e2 : q * (g * a) = g * (q * a) := by grind
      rw [e2, ← Int.mul_emod_mul_of_pos _ _ hg]
      have := Int.mul_ediv_add_emod (g * (q * a)) (g * b)
      rw [Int.mul_comm (g * b)] at this
      omega
    unfold near dst
    rw [e1]
    by_cases c : 2 * (q * a % b) ≤ b
    · have c2 : 2 * (g * (q * a % b)) ≤ g * b := by
        have := Int.mul_le_mul_of_nonneg_left c (Int.le_of_lt hg)
        have e : g * (2 * (q * a % b)) = 2 * (g * (q * a % b)) := by grind
        omega
      rw [if_pos c, if_pos c2]
    · have c2 : ¬ 2 * (g * (q * a % b)) ≤ g * b := by
        have := Int.mul_lt_mul_of_pos_left (show b < 2 * (q * a % b) by omega) hg
        have e : g * (2 * (q * a % b)) = 2 * (g * (q * a % b)) := by grind
        omega
      rw [if_neg c, if_neg c2]
      show g * b - g * (q * a % b) = g * (b - q * a % b)
      grind
  have em : missF [(A, B)] q = if 0 < (near (q * A) B).2 then ((near (q * A) B).2, B) else (0, 1) := by
    show missS q (0, 1) (A, B) = _
    unfold missS isMore
    by_cases c : 0 < (near (q * A) B).2
    · rw [if_pos c, if_pos (decide_eq_true (by show (0 : Int) * B < (near (q * A) B).2 * 1; omega))]
    · rw [if_neg c, if_neg (by rw [decide_eq_true_eq]; show ¬ (0 : Int) * B < (near (q * A) B).2 * 1; omega)]
  have cross : ∀ x y : Int, 0 < y → (inL x y).1 * y = x * (inL x y).2 := fun x y hy => by
    have d1 : x = Int.gcd x y * (inL x y).1 := (Int.mul_ediv_cancel' (Int.gcd_dvd_left ..)).symm
    have d2 : y = Int.gcd x y * (inL x y).2 := (Int.mul_ediv_cancel' (Int.gcd_dvd_right ..)).symm
    generalize (inL x y).1 = u at *
    generalize (inL x y).2 = v at *
    generalize (Int.gcd x y : Int) = h at *
    rw [d1, d2]
    grind
  unfold missL
  rw [em]
  by_cases c : 0 < (near (q * A) B).2
  · rw [if_pos c]
    have e1 := cross (near (q * A) B).2 B hB
    generalize (inL (near (q * A) B).2 B).1 = u at *
    generalize (inL (near (q * A) B).2 B).2 = v at *
    rw [en] at e1
    generalize dst (inL A B).1 (inL A B).2 q = d at *
    generalize (inL A B).2 = b at *
    generalize (Int.gcd A B : Int) = g at *
    have e2 : g * (u * b) = g * (d * v) := by
      rw [eB] at e1
      grind
    exact Int.eq_of_mul_eq_mul_left (by omega) e2
  · rw [if_neg c]
    have z : dst (inL A B).1 (inL A B).2 q = 0 := by
      have h0 := dst_nonneg (inL A B).1 (inL A B).2 q hb
      rcases Int.lt_or_le 0 (dst (inL A B).1 (inL A B).2 q) with h | h
      · have := Int.mul_pos hg h
        omega
      · omega
    rw [z]
    have : inL 0 1 = (0, 1) := by decide
    rw [this]
    omega
theorem inL_pos {A B : Int} (hB : 0 < B) : 0 < (inL A B).2 ∧ (inL A B).2 ≤ B := by
  have hg : 0 < (Int.gcd A B : Int) := by
    have : Int.gcd A B ≠ 0 := fun e => by rw [Int.gcd_eq_zero_iff] at e; omega
    omega
  have hd : (Int.gcd A B : Int) ≤ B := Int.le_of_dvd hB (Int.gcd_dvd_right ..)
  have h1 : 1 ≤ B / (Int.gcd A B : Int) := Int.le_ediv_of_mul_le hg (by omega)
  exact ⟨show 0 < B / (Int.gcd A B : Int) by omega, Int.ediv_le_self _ (by omega)⟩
theorem lessM_one {A B : Int} (hB : 0 < B) (ok : OkA [(A, B)]) (p q : Int) : lessM [(A, B)] p q = decide (dst (inL A B).1 (inL A B).2 q < dst (inL A B).1 (inL A B).2 p) := by
  have hb := (inL_pos (A := A) hB).1
  have e1 := missL_one (A := A) hB p
  have e2 := missL_one (A := A) hB q
  have p1 := (missL_ok (q := p) ok).2.1
  have p2 := (missL_ok (q := q) ok).2.1
  unfold lessM isMore
  generalize (missL [(A, B)] p).1 = x1 at *
  generalize (missL [(A, B)] p).2 = x2 at *
  generalize (missL [(A, B)] q).1 = y1 at *
  generalize (missL [(A, B)] q).2 = y2 at *
  generalize dst (inL A B).1 (inL A B).2 p = dp at *
  generalize dst (inL A B).1 (inL A B).2 q = dq at *
  generalize (inL A B).2 = b at *
  have f1 : y1 * x2 * b = dq * (x2 * y2) := by
    have : y1 * x2 * b = (y1 * b) * x2 := by grind
    rw [this, e2]; grind
  have f2 : x1 * y2 * b = dp * (x2 * y2) := by
    have : x1 * y2 * b = (x1 * b) * y2 := by grind
    rw [this, e1]; grind
  have hp : 0 < x2 * y2 := Int.mul_pos p1 p2
  have iff1 : y1 * x2 < x1 * y2 ↔ dq < dp := by
    constructor
    · intro h
      have := Int.mul_lt_mul_of_pos_right h hb
      rw [f1, f2] at this
      exact Int.lt_of_mul_lt_mul_right this (by omega)
    · intro h
      have := Int.mul_lt_mul_of_pos_right h hp
      rw [← f1, ← f2] at this
      exact Int.lt_of_mul_lt_mul_right this (by omega)
  exact decide_eq_decide.mpr iff1
/-! ## the steps -/
structure Cf (a b h n be re : Int) : Prop where
  ex : ∃ s p0 p1 : Int, (s = 1 ∨ s = -1) ∧ n * a - p1 * b = s * re ∧ h * a - p0 * b = -s * be ∧ (h = 0 → s = 1) ∧ (1 ≤ h → s = 1 → 2 * be < b)
  sum : n * be + h * re = b
  h0 : 0 ≤ h
  hn : h ≤ n
  n1 : 1 ≤ n
  r0 : 0 ≤ re
  rb : re < be
  z : h = 0 → n = 1
theorem Cf.start {a b : Int} (hb : 0 < b) : Cf a b 0 1 b (a % b) := by
  have h3 := Int.mul_ediv_add_emod a b
  exact ⟨⟨1, 1, a / b, .inl rfl, by rw [Int.mul_comm (a / b)]; omega, by omega, fun _ => rfl, fun h => absurd h (by decide)⟩, by omega, by decide, by decide, by decide, Int.emod_nonneg _ (by omega), Int.emod_lt_of_pos _ hb, fun _ => rfl⟩
theorem Cf.step {a b h n be re : Int} (c : Cf a b h n be re) (hr : 0 < re) : Cf a b n (be / re * n + h) re (be % re) := by
  obtain ⟨⟨s, p0, p1, hs, e1, e2, z1, z2⟩, sum, h0, hn, n1, r0, rb, z⟩ := c
  have d1 := Int.mul_ediv_add_emod be re
  have q1 : 1 ≤ be / re := Int.le_ediv_of_mul_le hr (by omega)
  have m0 := Int.emod_nonneg be (show re ≠ 0 by omega)
  have m1 := Int.emod_lt_of_pos be hr
  generalize be / re = k at *
  generalize be % re = m at *
  have kn : n ≤ k * n := by
    have := Int.mul_le_mul_of_nonneg_right q1 (show 0 ≤ n by omega)
    omega
  refine ⟨⟨-s, p1, k * p1 + p0, by omega, ?_, by rw [e1]; grind, fun e => by omega, fun _ e => ?_⟩, ?_, by omega, by omega, by omega, m0, m1, fun e => by omega⟩
  · have : (k * n + h) * a - (k * p1 + p0) * b = k * (n * a - p1 * b) + (h * a - p0 * b) := by grind
    rw [this, e1, e2, ← d1]
    grind
  · have h1 : 1 ≤ h := by
      rcases Int.lt_or_le 0 h with h | h
      · omega
      · have := z1 (by omega)
        omega
    have h2 : be ≤ n * be := by
      have := Int.mul_le_mul_of_nonneg_right n1 (show 0 ≤ be by omega)
      omega
    have h3 : re ≤ h * re := by
      have := Int.mul_le_mul_of_nonneg_right h1 r0
      omega
    omega
  · rw [← sum, ← d1]
    grind
theorem Cf.det {a b h n be re s p0 p1 : Int} (hb : 0 < b) (e1 : n * a - p1 * b = s * re) (e2 : h * a - p0 * b = -s * be) (sum : n * be + h * re = b) : n * p0 - h * p1 = s := by
  have : (n * p0 - h * p1) * b = s * b := by
    have e3 : (n * p0 - h * p1) * b = s * (n * be + h * re) := by grind
    rw [e3, sum]
  exact Int.eq_of_mul_eq_mul_right (by omega) this
/-- nothing ahead of n is nearer than what is left -/
theorem Cf.far {a b h n be re : Int} (hb : 0 < b) (c : Cf a b h n be re) (hh : 1 ≤ h) {j : Int} (j0 : 0 < j) (jn : j < n) : be ≤ dst a b j := by
  obtain ⟨⟨s, p0, p1, hs, e1, e2, _, _⟩, sum, h0, hn, n1, r0, rb, z⟩ := c
  have dt := Cf.det hb e1 e2 sum
  obtain ⟨t, et⟩ := dst_at a b j hb
  rw [et]
  have ss : s * s = 1 := by rcases hs with rfl | rfl <;> rfl
  -- j = x h + y n, t = x p0 + y p1
  obtain ⟨x, hx⟩ : ∃ x, x = -s * (j * p1 - t * n) := ⟨_, rfl⟩
  obtain ⟨y, hy⟩ : ∃ y, y = -s * (h * t - p0 * j) := ⟨_, rfl⟩
  have ej : j = x * h + y * n := by
    have : x * h + y * n = s * (n * p0 - h * p1) * j := by rw [hx, hy]; grind
    rw [this, dt, ss]; omega
  have et2 : t = x * p0 + y * p1 := by
    have : x * p0 + y * p1 = s * (n * p0 - h * p1) * t := by rw [hx, hy]; grind
    rw [this, dt, ss]; omega
  have ev : j * a - t * b = -s * (x * be - y * re) := by
    have : j * a - t * b = x * (h * a - p0 * b) + y * (n * a - p1 * b) := by
      rw [ej, et2]; grind
    rw [this, e1, e2]; grind
  have eabs : (j * a - t * b).natAbs = (x * be - y * re).natAbs := by
    rw [ev, Int.natAbs_mul]
    have : (-s).natAbs = 1 := by rcases hs with rfl | rfl <;> rfl
    rw [this, Nat.one_mul]
  rw [eabs]
  clear hx hy ev eabs et et2 e1 e2 dt
  rcases Int.lt_trichotomy y 0 with hy | hy | hy
  · have h1 : y * n ≤ (-1) * n := Int.mul_le_mul_of_nonneg_right (by omega) (by omega)
    have h2 : 0 < x * h := by omega
    have h3 : 0 < x := Int.pos_of_mul_pos_left h2 (by omega)
    have h4 : 1 * be ≤ x * be := Int.mul_le_mul_of_nonneg_right (by omega) (by omega)
    have h5 : y * re ≤ 0 := Int.mul_nonpos_of_nonpos_of_nonneg (by omega) r0
    omega
  · subst hy
    have h2 : 0 < x * h := by omega
    have h3 : 0 < x := Int.pos_of_mul_pos_left h2 (by omega)
    have h4 : 1 * be ≤ x * be := Int.mul_le_mul_of_nonneg_right (by omega) (by omega)
    omega
  · have h1 : 1 * n ≤ y * n := Int.mul_le_mul_of_nonneg_right (by omega) (by omega)
    have h2 : x * h < 0 := by omega
    have h3 : x < 0 := by
      rcases Int.lt_or_le x 0 with h | h
      · exact h
      · have := Int.mul_nonneg h h0
        omega
    have h4 : x * be ≤ (-1) * be := Int.mul_le_mul_of_nonneg_right (by omega) (by omega)
    have h5 : 0 ≤ y * re := Int.mul_nonneg (by omega) r0
    omega
theorem Cf.near {a b h n be re : Int} (hb : 0 < b) (c : Cf a b h n be re) : dst a b n ≤ re ∧ dst a b h ≤ be := by
  obtain ⟨⟨s, p0, p1, hs, e1, e2, _, _⟩, sum, h0, hn, n1, r0, rb, z⟩ := c
  have k1 := dst_le (a := a) (q := n) p1 hb
  have k2 := dst_le (a := a) (q := h) p0 hb
  rw [e1] at k1
  rw [e2] at k2
  rcases hs with rfl | rfl <;> constructor <;> omega
/-- what two neighbours among the best ones of one fraction are to each other -/
def Pair1 (a b v u : Int) : Prop := ∃ s p0 p1 be re : Int, (s = 1 ∨ s = -1) ∧ u * a - p1 * b = s * re ∧ v * a - p0 * b = -s * be ∧ u * p0 - v * p1 = s ∧ 0 ≤ re ∧ re < be ∧ 2 * re < b ∧ 2 * be ≤ b ∧ (s = 1 → 2 * be < b)
def PairsOk (a b : Int) (ns : List Int) : Prop := ∀ (i : Nat) (v u : Int), ns[i]? = some v → ns[i + 1]? = some u → Pair1 a b v u
theorem PairsOk.push {a b : Int} {ns : List Int} {h n : Int} (p : PairsOk a b ns) (hl : ns = [] ∨ (ns.getLast? = some h ∧ Pair1 a b h n)) : PairsOk a b (ns ++ [n]) := by
  intro i v u h1 h2
  by_cases hi : i + 1 < ns.length
  · rw [List.getElem?_append_left hi] at h2
    rw [List.getElem?_append_left (by omega)] at h1
    exact p i v u h1 h2
  · have hi2 : i + 1 = ns.length := by
      have := (List.getElem?_eq_some_iff.mp h2).1
      rw [List.length_append] at this
      simp at this
      omega
    rw [List.getElem?_append_left (by omega)] at h1
    rw [List.getElem?_append_right (by omega), hi2, Nat.sub_self] at h2
    have hu : u = n := by simpa using h2.symm
    rcases hl with hl | ⟨hl, hp⟩
    · rw [hl] at hi2
      simp at hi2
    · have hv : v = h := by
        rw [List.getLast?_eq_getElem?, ← hi2, Nat.add_sub_cancel, h1] at hl
        exact Option.some.inj hl
      rw [hu, hv]; exact hp
theorem PairsOk.pop {a b : Int} {ns : List Int} (p : PairsOk a b ns) : PairsOk a b ns.dropLast := by
  intro i v u h1 h2
  rw [List.getElem?_dropLast] at h1 h2
  split at h1
  · split at h2
    · exact p i v u h1 h2
    · cases h2
  · cases h1
end L3
namespace L3
open PySem PySem.Spec PyProof.Rows L2
local macro_rules | `(tactic| wtm_at "sh") => `(tactic| conv => whnf)
theorem bestL_stay {l : List (Int × Int)} {x : Nat} {w : Int} (hw : (bestL l x).getLast? = some w) : ∀ (d : Nat), (∀ j : Int, x < j → j ≤ x + d → lessM l w j = false) → bestL l (x + d) = bestL l x
  | 0, _ => rfl
  | d + 1, h => by
    have ih := bestL_stay hw d fun j h1 h2 => h j h1 (by omega)
    show bestS l (bestL l (x + d)) ((x + d + 1 : Nat) : Int) = _
    rw [ih]
    refine if_neg fun hc => ?_
    rcases hc with hc | ⟨v, hv, hl⟩
    · rw [hc] at hw; cases hw
    · rw [hw] at hv
      cases hv
      rw [h _ (by omega) (by omega)] at hl
      cases hl
theorem bestL_jump {l : List (Int × Int)} {x y : Nat} {w : Int} (hw : (bestL l x).getLast? = some w) (hxy : x < y) (h : ∀ j : Int, x < j → j < y → lessM l w j = false) (k : lessM l w y = true) : bestL l y = bestL l x ++ [(y : Int)] := by
  obtain ⟨d, rfl⟩ : ∃ d, y = x + d + 1 := ⟨y - x - 1, by omega⟩
  have st := bestL_stay hw d fun j h1 h2 => h j h1 (by omega)
  show bestS l (bestL l (x + d)) _ = _
  rw [st]
  exact if_pos (.inr ⟨w, hw, k⟩)
/-- what found holds when a number is pushed -/
theorem Cf.push {A B h n be re : Int} (hB : 0 < B) (ok : OkA [(A, B)]) (c : Cf (inL A B).1 (inL A B).2 h n be re) (hh : 1 ≤ h) (hn : h < n) (hw : (bestL [(A, B)] h.toNat).getLast? = some h) : bestL [(A, B)] n.toNat = bestL [(A, B)] h.toNat ++ [n] := by
  have hb := (inL_pos (A := A) hB).1
  have en : ((n.toNat : Nat) : Int) = n := Int.toNat_of_nonneg (by omega)
  have eh : ((h.toNat : Nat) : Int) = h := Int.toNat_of_nonneg (by omega)
  have nr := c.near hb
  have rb := c.rb
  have := bestL_jump (l := [(A, B)]) (x := h.toNat) (y := n.toNat) (w := h) hw (by omega) (fun j h1 h2 => by
    rw [lessM_one hB ok]
    have := c.far hb hh (j := j) (by omega) (by omega)
    exact decide_eq_false (by omega)) (by
    rw [lessM_one hB ok, en]
    have := c.far hb hh (j := h) (by omega) (by omega)
    exact decide_eq_true (by omega))
  rw [en] at this
  exact this
end L3
namespace L3
open PySem PySem.Spec PyProof.Rows L2
local macro_rules | `(tactic| wtm_at "sh") => `(tactic| conv => whnf)
end L3
namespace L3
open PySem PySem.Spec PyProof.Rows L2
local macro_rules | `(tactic| wtm_at "sh") => `(tactic| conv => whnf)
theorem cut_one {α : Type} {l : List α} (h : 0 < l.length) : cutL l (some 1) none = l.drop 1 := by
  unfold cutL
  rw [HT.sIx_none, show HT.sIx l.length 0 (some (1 : Int)) = min 1 l.length from HT.sIx_nat _ 0 1, Nat.min_eq_left h]
  rw [List.take_of_length_le (by rw [List.length_drop]; exact Nat.le_refl _)]
end L3
namespace L3
open PySem PySem.Spec PyProof.Rows L2
local macro_rules | `(tactic| wtm_at "sh") => `(tactic| conv => whnf)
end L3
namespace L3
open PySem PySem.Spec PyProof.Rows L2
local macro_rules | `(tactic| wtm_at "sh") => `(tactic| conv => whnf)
end L3
namespace L3
open PySem PySem.Spec PyProof.Rows L2 TL
local macro_rules | `(tactic| wtm_at "sh") => `(tactic| conv => whnf)
/-! ## numbers as texts -/
theorem get_fun {α β : Type} {f : α → β} {l : List α} {i : Nat} {x : β} (h : (l.map f)[i]? = some x) : ∃ c, l[i]? = some c ∧ x = f c := by
  rw [List.getElem?_map] at h
  cases e : l[i]? with
  | none => rw [e] at h; cases h
  | some c => rw [e] at h; exact ⟨c, rfl, (Option.some.inj h).symm⟩
end L3
namespace L3
open PySem PySem.Spec PyProof.Rows L2 TL
local macro_rules | `(tactic| wtm_at "sh") => `(tactic| conv => whnf)
end L3
namespace L3
open PySem PySem.Spec PyProof.Rows L2 TL
local macro_rules | `(tactic| wtm_at "sh") => `(tactic| conv => whnf)
end L3
namespace L3
open PySem PySem.Spec PyProof.Rows L2 TL
local macro_rules | `(tactic| wtm_at "sh") => `(tactic| conv => whnf)
/-! ## one miss seen otherwise -/
end L3
namespace L3
open PySem PySem.Spec PyProof.Rows L2 TL
local macro_rules | `(tactic| wtm_at "sh") => `(tactic| conv => whnf)
end L3
namespace L3
open PySem PySem.Spec PyProof.Rows L2 TL
local macro_rules | `(tactic| wtm_at "sh") => `(tactic| conv => whnf)
/-- fractions as small as the law makes them -/
def AskS (l : List (Int × Int)) : Prop := l ≠ [] ∧ l.length ≤ 3 ∧ ∀ p ∈ l, 0 < p.2 ∧ p.2 ≤ 10000000000000000 ∧ 0 ≤ p.1 ∧ p.1 ≤ 10000000000000000
theorem szB {x : Int} (h0 : -100000000000000000000000000000 ≤ x) (h1 : x ≤ 100000000000000000000000000000) : Sz 2000 x := by
  unfold Sz; exact Nat.lt_of_lt_of_le (show x.natAbs < 2 ^ 100 by omega) (Nat.pow_le_pow_right (by decide) (by decide))
theorem AskS.ok {l : List (Int × Int)} (h : AskS l) : OkA l := fun p hp => by
  obtain ⟨h1, h2, h3, h4⟩ := h.2.2 p hp
  exact ⟨h1, szB (by omega) (by omega), szB (by omega) (by omega)⟩
theorem zip_at {α β : Type} {f : α → PyData} {g : β → PyData} {l : List α} {m : List β} {i : Nat} {x : PyData} (h : (zipD (l.map f) (m.map g))[i]? = some x) : ∃ p t, l[i]? = some p ∧ m[i]? = some t ∧ x = .tuple [f p, g t] := by
  unfold zipD at h
  rw [List.getElem?_zipWith, List.getElem?_map, List.getElem?_map] at h
  cases e1 : l[i]? with
  | none => rw [e1] at h; cases h
  | some y =>
    cases e2 : m[i]? with
    | none => rw [e1, e2] at h; cases h
    | some z => rw [e1, e2] at h; exact ⟨y, z, rfl, rfl, (Option.some.inj h).symm⟩
theorem fz_own (p : Addr) {α : Type} (f : α → PyData) (l : List α) : fz (T.own p (l.map fun x => T.d (f x))) = .list (l.map f) := by
  show PyData.list (fzs (l.map fun x => T.d (f x))) = _
  rw [fzs_map]
/-! ### under a common number below -/
end L3
namespace L3
open PySem PySem.Spec PyProof.Rows L2 TL
local macro_rules | `(tactic| wtm_at "sh") => `(tactic| conv => whnf)
/-! ## the best ones seen otherwise -/
/-- a comprehension whose items tell data, one for each -/
theorem lc_gen {items : List PyData} (out : List PyData) (hlen : out.length = items.length) (hsz : items.length ≤ sizeLine) {r1 : Rho} {js : List Nat} {g : TG3} {te : TE3} {Fin : Addr → List T → Rho → Prop}
    (turn : ∀ r0, wp r1 js = r0 → ∀ (i : Nat) (x y : PyData), items[i]? = some x → out[i]? = some y → ∀ (R : T → Rho → Prop) (S : Rho → Prop), (∀ r4, wp r4 js = r0 → R (.d y) r4) → g (.d x) r0 fun r2 => xYes r2 fun b r3 => (b = true → te r3 R) ∧ (b = false → S r3))
    (fin : ∀ r0, wp r1 js = r0 → ∀ p, Fin p (out.map T.d) r0) :
    ∀ p, ∃ W : Nat → List T → Rho → Prop, W 0 [] (wp r1 js) ∧
      (∀ (i : Nat) (x : PyData) (acc : List T) (r : Rho), items[i]? = some x → W i acc r → g (.d x) r fun r2 => xYes r2 fun b r3 => (b = true → te r3 fun y r4 => acc.length < sizeLine ∧ W (i + 1) (acc ++ [y]) (wp r4 js)) ∧ (b = false → W (i + 1) acc (wp r3 js))) ∧
      ∀ acc r, W items.length acc r → Fin p acc r := fun p => by
  refine ⟨fun i acc r => r = wp r1 js ∧ acc = (out.take i).map T.d, ⟨rfl, rfl⟩, fun i x acc r hx hW => ?_, fun acc r hW => ?_⟩
  · obtain ⟨rfl, rfl⟩ := hW
    have hi : i < items.length := (List.getElem?_eq_some_iff.mp hx).1
    have ho : out[i]? = some out[i] := List.getElem?_eq_getElem (by omega)
    exact turn _ rfl i x _ hx ho _ _ fun r4 e => ⟨by rw [List.length_map, List.length_take]; omega, e, by rw [take_succ ho, List.map_append]; rfl⟩
  · obtain ⟨rfl, rfl⟩ := hW
    rw [← hlen, List.take_length]
    exact fin _ rfl p
theorem fz_outs (p : Addr) (out : List PyData) : fz (T.own p (out.map T.d)) = .list out := by
  show PyData.list (fzs _) = _
  rw [fzs_d]
theorem get_map2 {α β : Type} {f : α → β} {l : List α} {i : Nat} {u : α} {y : β} (h : (l.map f)[i]? = some y) (e : l[i]? = some u) : y = f u := by
  rw [List.getElem?_map, e] at h
  exact (Option.some.inj h).symm
def AskV (l : List (Int × Int)) : Prop := l ≠ [] ∧ l.length ≤ 3 ∧ ∀ p ∈ l, 0 < p.2 ∧ p.2 ≤ 100000000000000000 ∧ 0 ≤ p.1 ∧ p.1 ≤ 100000000000000000
theorem AskV.ok {l : List (Int × Int)} (h : AskV l) : OkA l := fun p hp => by
  obtain ⟨h1, h2, h3, h4⟩ := h.2.2 p hp
  exact ⟨h1, szB (by omega) (by omega), szB (by omega) (by omega)⟩
theorem zipD_len {l m : List PyData} : (zipD l m).length = min l.length m.length := List.length_zipWith
end L3
namespace L3
open PySem PySem.Spec PyProof.Rows L2 TL
local macro_rules | `(tactic| wtm_at "sh") => `(tactic| conv => whnf)
/-! ## refusals -/
/-- askings so small that all can be asked of them -/
def SmallA (l : List (Int × Int)) : Prop := l ≠ [] ∧ l.length ≤ 3 ∧ ∀ p ∈ l, 0 < p.2 ∧ p.2 ≤ 14 ∧ -1000000000000000000000 ≤ p.1 ∧ p.1 ≤ 1000000000000000000000
theorem SmallA.ok {l : List (Int × Int)} (h : SmallA l) : OkA l := fun p hp => by
  obtain ⟨h1, h2, h3, h4⟩ := h.2.2 p hp
  exact ⟨h1, szB (by omega) (by omega), szB (by omega) (by omega)⟩
end L3
namespace L3
open PySem PySem.Spec PyProof.Rows L2 TL
local macro_rules | `(tactic| wtm_at "sh") => `(tactic| conv => whnf)
theorem cut_take {α : Type} {l : List α} {n : Nat} (h : n ≤ l.length) : cutL l none (some (n : Int)) = l.take n := by
  unfold cutL
  rw [show HT.sIx l.length 0 none = 0 from rfl, HT.sIx_nat, Nat.min_eq_left h, Nat.sub_zero, List.drop_zero]
theorem cut_drop {α : Type} {l : List α} {n : Nat} (h : n ≤ l.length) : cutL l (some (n : Int)) none = l.drop n := by
  unfold cutL
  rw [HT.sIx_none, HT.sIx_nat, Nat.min_eq_left h, List.take_of_length_le (by rw [List.length_drop]; exact Nat.le_refl _)]
theorem nvs_append : ∀ (l m : List T), nvs (l ++ m) = (nvs l && nvs m)
  | [], m => by simp [nvs]
  | t :: l, m => by simp only [List.cons_append, nvs, nvs_append l m, Bool.and_assoc]
abbrev st2 (a : Addr) (ns : List Int) (dk : Addr) (l : List T) (s2 s3 s4 s5 s6 s7 s8 s9 : Option T) : Rho := [some (.sc a ns), some (.own dk l), s2, s3, s4, s5, s6, s7, s8, s9, none, none, none, none, none]
end L3
namespace L3
/-! ## determinants, as the law reckons them -/
def sumR : Nat → (Nat → Int) → Int
  | 0, _ => 0
  | m + 1, f => sumR m f + f m
theorem sumR_congr {f g : Nat → Int} : ∀ {m : Nat}, (∀ k, k < m → f k = g k) → sumR m f = sumR m g
  | 0, _ => rfl
  | m + 1, h => by
    show sumR m f + f m = sumR m g + g m
    rw [sumR_congr (fun k hk => h k (by omega)), h m (by omega)]
theorem sumR_lin {f g : Nat → Int} (c : Int) : ∀ m, sumR m (fun k => f k + c * g k) = sumR m f + c * sumR m g
  | 0 => by simp [sumR]
  | m + 1 => by
    show sumR m (fun k => f k + c * g k) + (f m + c * g m) = sumR m f + f m + c * (sumR m g + g m)
    rw [sumR_lin c m]; grind
theorem sumR_zero {f : Nat → Int} : ∀ {m : Nat}, (∀ k, k < m → f k = 0) → sumR m f = 0
  | 0, _ => rfl
  | m + 1, h => by
    show sumR m f + f m = 0
    rw [sumR_zero (fun k hk => h k (by omega)), h m (by omega)]; rfl
def sg (k : Nat) : Int := if k % 2 = 0 then 1 else -1
abbrev Mat := List (List Int)
def minor (k : Nat) (rows : Mat) : Mat := rows.map fun r => r.eraseIdx k
def detN : Nat → Mat → Int
  | 0, _ => 1
  | _ + 1, [] => 1
  | n + 1, r :: rest => sumR (n + 1) fun k => r.getD k 0 * sg k * detN n (minor k rest)
/-- so many rows of so many numbers -/
def Sq (m n : Nat) (rows : Mat) : Prop := rows.length = m ∧ ∀ r ∈ rows, r.length = n
theorem Sq.tail {m n : Nat} {r : List Int} {rows : Mat} (h : Sq (m + 1) n (r :: rows)) : r.length = n ∧ Sq m n rows :=
  ⟨h.2 r (by simp), by simpa using h.1, fun x hx => h.2 x (List.mem_cons_of_mem _ hx)⟩
theorem Sq.minor {m n k : Nat} {rows : Mat} (h : Sq m (n + 1) rows) (hk : k < n + 1) : Sq m n (minor k rows) :=
  ⟨by unfold L3.minor; rw [List.length_map]; exact h.1, fun r hr => by
    obtain ⟨x, hx, rfl⟩ := List.mem_map.mp hr
    rw [List.length_eraseIdx, h.2 x hx, if_pos hk]; rfl⟩
theorem Sq.set {m n i : Nat} {rows : Mat} {x : List Int} (h : Sq m n rows) (hx : x.length = n) : Sq m n (rows.set i x) :=
  ⟨by rw [List.length_set]; exact h.1, fun r hr => by
    rcases List.mem_or_eq_of_mem_set hr with h1 | rfl
    · exact h.2 r h1
    · exact hx⟩
/-- x + m y -/
def vAdd (x : List Int) (m : Int) (y : List Int) : List Int := List.zipWith (fun a b => a + m * b) x y
theorem vAdd_len {x y : List Int} {m : Int} {n : Nat} (hx : x.length = n) (hy : y.length = n) : (vAdd x m y).length = n := by
  unfold vAdd; rw [List.length_zipWith]; omega
theorem zipWith_erase (f : Int → Int → Int) : ∀ (x y : List Int) (k : Nat), x.length = y.length → (List.zipWith f x y).eraseIdx k = List.zipWith f (x.eraseIdx k) (y.eraseIdx k)
  | [], [], _, _ => by simp
  | a :: x, b :: y, 0, h => by simp
  | a :: x, b :: y, k + 1, h => by
    simp only [List.zipWith_cons_cons, List.eraseIdx_cons_succ, zipWith_erase f x y k (by simpa using h)]
theorem vAdd_get {x y : List Int} {m : Int} {k : Nat} (hx : k < x.length) (hy : k < y.length) : (vAdd x m y).getD k 0 = x.getD k 0 + m * y.getD k 0 := by
  unfold vAdd
  rw [List.getD_eq_getElem?_getD, List.getD_eq_getElem?_getD, List.getD_eq_getElem?_getD, List.getElem?_zipWith, List.getElem?_eq_getElem hx, List.getElem?_eq_getElem hy]
  rfl
theorem minor_set {rows : Mat} {i k : Nat} {x : List Int} : minor k (rows.set i x) = (minor k rows).set i (x.eraseIdx k) := by
  unfold minor
  rw [List.map_set]
theorem det_lin : ∀ (n : Nat) (rows : Mat) (i : Nat) (x y : List Int) (m : Int), Sq n n rows → i < n → x.length = n → y.length = n → detN n (rows.set i (vAdd x m y)) = detN n (rows.set i x) + m * detN n (rows.set i y)
  | 0, _, i, _, _, _, _, h, _, _ => by omega
  | n + 1, [], _, _, _, _, h, _, _, _ => by have := h.1; simp at this
  | n + 1, r :: rest, 0, x, y, m, h, _, hx, hy => by
    show sumR (n + 1) (fun k => (vAdd x m y).getD k 0 * sg k * detN n (minor k rest)) = sumR (n + 1) (fun k => x.getD k 0 * sg k * detN n (minor k rest)) + m * sumR (n + 1) (fun k => y.getD k 0 * sg k * detN n (minor k rest))
    rw [← sumR_lin]
    refine sumR_congr fun k hk => ?_
    rw [vAdd_get (by omega) (by omega)]
    grind
  | n + 1, r :: rest, i + 1, x, y, m, h, hi, hx, hy => by
    obtain ⟨hr, ht⟩ := h.tail
    show sumR (n + 1) (fun k => r.getD k 0 * sg k * detN n (minor k (rest.set i (vAdd x m y)))) = sumR (n + 1) (fun k => r.getD k 0 * sg k * detN n (minor k (rest.set i x))) + m * sumR (n + 1) (fun k => r.getD k 0 * sg k * detN n (minor k (rest.set i y)))
    rw [← sumR_lin]
    refine sumR_congr fun k hk => ?_
    have e : minor k (rest.set i (vAdd x m y)) = (minor k rest).set i (vAdd (x.eraseIdx k) m (y.eraseIdx k)) := by
      rw [minor_set]
      unfold vAdd
      rw [zipWith_erase _ _ _ _ (by omega)]
    rw [e, det_lin n (minor k rest) i _ _ m (ht.minor hk) (by omega) (by rw [List.length_eraseIdx, hx, if_pos hk]; rfl) (by rw [List.length_eraseIdx, hy, if_pos hk]; rfl), minor_set, minor_set]
    grind
theorem len2 {r : List Int} (h : r.length = 2) : ∃ a b, r = [a, b] := by
  match r, h with | [a, b], _ => exact ⟨a, b, rfl⟩
theorem len3 {r : List Int} (h : r.length = 3) : ∃ a b c, r = [a, b, c] := by
  match r, h with | [a, b, c], _ => exact ⟨a, b, c, rfl⟩
theorem len4 {r : List Int} (h : r.length = 4) : ∃ a b c d, r = [a, b, c, d] := by
  match r, h with | [a, b, c, d], _ => exact ⟨a, b, c, d, rfl⟩
theorem alt01 : ∀ (n : Nat) (r : List Int) (rest : Mat), n ≤ 4 → Sq n n (r :: r :: rest) → detN n (r :: r :: rest) = 0
  | 0, r, rest, _, h => by have := h.1; simp at this
  | 1, r, rest, _, h => by have := h.1; simp at this
  | 2, r, rest, _, h => by
    obtain ⟨a, b, rfl⟩ := len2 (h.2 r (by simp))
    have hl : rest = [] := by have := h.1; simpa using this
    subst hl
    simp [detN, sumR, minor, sg]
    grind
  | 3, r, rest, _, h => by
    obtain ⟨a, b, c, rfl⟩ := len3 (h.2 r (by simp))
    have hl : rest.length = 1 := by have := h.1; simpa using this
    match rest, hl with
    | [x], _ =>
      obtain ⟨d, e, f, rfl⟩ := len3 (h.2 x (by simp))
      simp [detN, sumR, minor, sg]
      grind
  | 4, r, rest, _, h => by
    obtain ⟨a, b, c, d, rfl⟩ := len4 (h.2 r (by simp))
    have hl : rest.length = 2 := by have := h.1; simpa using this
    match rest, hl with
    | [x, y], _ =>
      obtain ⟨e, f, g, i, rfl⟩ := len4 (h.2 x (by simp))
      obtain ⟨j, k, l, m, rfl⟩ := len4 (h.2 y (by simp))
      simp [detN, sumR, minor, sg]
      grind
  | n + 5, _, _, h, _ => by omega
/-- from linear and alternating in two rows: their exchange turns the sign -/
theorem swap_of {n : Nat} {i j : Nat} (hij : i ≠ j) (hi : i < n) (hj : j < n) (alt : ∀ (rows : Mat) (x : List Int), Sq n n rows → rows[i]? = some x → rows[j]? = some x → detN n rows = 0)
    {rows : Mat} {x y : List Int} (h : Sq n n rows) (hx : x.length = n) (hy : y.length = n) : detN n ((rows.set i x).set j y) = - detN n ((rows.set i y).set j x) := by
  have s1 : ∀ {a b : List Int}, a.length = n → b.length = n → Sq n n ((rows.set i a).set j b) := fun {a b} ha hb => (h.set ha).set hb
  have hl := h.1
  have g : ∀ (a : List Int), ((rows.set i a).set j a)[i]? = some a ∧ ((rows.set i a).set j a)[j]? = some a := fun a => ⟨by
    rw [List.getElem?_set_ne (Ne.symm hij), List.getElem?_set_self (by omega)], by
    rw [List.getElem?_set_self (by rw [List.length_set]; omega)]⟩
  have z : ∀ a : List Int, a.length = n → detN n ((rows.set i a).set j a) = 0 := fun a ha => alt _ a (s1 ha ha) (g a).1 (g a).2
  have hv : (vAdd x 1 y).length = n := vAdd_len hx hy
  have e0 := z (vAdd x 1 y) hv
  rw [det_lin n (rows.set i (vAdd x 1 y)) j x y 1 (h.set hv) hj hx hy] at e0
  have c : ∀ (a b : List Int), (rows.set i a).set j b = (rows.set j b).set i a := fun a b => List.set_comm _ _ hij
  rw [c, c, det_lin n (rows.set j x) i x y 1 (h.set hx) hi hx hy, det_lin n (rows.set j y) i x y 1 (h.set hy) hi hx hy, ← c, ← c, ← c, ← c, z x hx, z y hy] at e0
  omega
theorem set_same {rows : Mat} {i : Nat} {x : List Int} (h : rows[i]? = some x) : rows.set i x = rows := by
  obtain ⟨hlt, e⟩ := List.getElem?_eq_some_iff.mp h
  rw [← e]
  exact List.set_getElem_self hlt
theorem det_alt : ∀ (n : Nat) (i j : Nat) (rows : Mat) (x : List Int), n ≤ 4 → Sq n n rows → i < j → rows[i]? = some x → rows[j]? = some x → detN n rows = 0
  | 0, i, j, rows, x, _, h, hij, hi, hj => by
    have := h.1
    have := (List.getElem?_eq_some_iff.mp hj).1
    omega
  | n + 1, i, j, [], x, _, h, _, hi, _ => by simp at hi
  | n + 1, i + 1, j, r :: rest, x, h4, h, hij, hi, hj => by
    obtain ⟨hr, ht⟩ := h.tail
    obtain ⟨j, rfl⟩ : ∃ j', j = j' + 1 := ⟨j - 1, by omega⟩
    show sumR (n + 1) (fun k => r.getD k 0 * sg k * detN n (minor k rest)) = 0
    refine sumR_zero fun k hk => ?_
    have e : ∀ m, (r :: rest)[m + 1]? = some x → (minor k rest)[m]? = some (x.eraseIdx k) := fun m hm => by
      have hm' : rest[m]? = some x := by simpa using hm
      unfold minor
      rw [List.getElem?_map, hm']
      rfl
    rw [det_alt n i j (minor k rest) (x.eraseIdx k) (by omega) (ht.minor hk) (by omega) (e i hi) (e j hj), Int.mul_zero]
  | n + 1, 0, j, r :: rest, x, h4, h, hij, hi, hj => by
    have hr : r = x := by simpa using hi
    subst hr
    match rest, j, hij, hj, h with
    | [], j, hij, hj, h =>
      have := (List.getElem?_eq_some_iff.mp hj).1
      simp at this
      omega
    | s :: rest, 1, _, hj, h =>
      have : s = r := by simpa using hj
      subst this
      exact alt01 _ _ _ h4 h
    | s :: rest, j + 2, _, hj, h =>
      have hs : s.length = n + 1 := h.2 s (by simp)
      have hr : r.length = n + 1 := h.2 r (by simp)
      have hjl : j + 2 < (r :: s :: rest).length := (List.getElem?_eq_some_iff.mp hj).1
      have hl := h.1
      have sw := swap_of (n := n + 1) (i := 1) (j := j + 2) (by omega) (by omega) (by omega) (fun rows x hq h1 h2 => by
        match rows, hq, h1, h2 with
        | [], hq, h1, h2 => simp at h1
        | r0 :: rows, hq, h1, h2 =>
          obtain ⟨hr0, ht⟩ := hq.tail
          show sumR (n + 1) (fun k => r0.getD k 0 * sg k * detN n (minor k rows)) = 0
          refine sumR_zero fun k hk => ?_
          have e : ∀ m, (r0 :: rows)[m + 1]? = some x → (minor k rows)[m]? = some (x.eraseIdx k) := fun m hm => by
            have hm' : rows[m]? = some x := by simpa using hm
            unfold minor
            rw [List.getElem?_map, hm']
            rfl
          rw [det_alt n 0 (j + 1) (minor k rows) (x.eraseIdx k) (by omega) (ht.minor hk) (by omega) (e 0 h1) (e (j + 1) h2), Int.mul_zero]) h (x := s) (y := r) hs hr
      have e1 : ((r :: s :: rest).set 1 s).set (j + 2) r = r :: s :: rest := by
        rw [show (r :: s :: rest).set 1 s = r :: s :: rest from rfl]
        exact set_same hj
      have e2 : ((r :: s :: rest).set 1 r).set (j + 2) s = r :: r :: rest.set j s := rfl
      rw [e1, e2, alt01 (n + 1) r (rest.set j s) h4 (by
        have q := (h.set (i := 1) hr).set (i := j + 2) hs
        rw [e2] at q
        exact q)] at sw
      omega
theorem det_alt' {n i j : Nat} {rows : Mat} {x : List Int} (h4 : n ≤ 4) (h : Sq n n rows) (hij : i ≠ j) (hi : rows[i]? = some x) (hj : rows[j]? = some x) : detN n rows = 0 := by
  rcases Nat.lt_or_gt_of_ne hij with c | c
  · exact det_alt n i j rows x h4 h c hi hj
  · exact det_alt n j i rows x h4 h c hj hi
/-- two rows exchanged -/
theorem det_swap {n i j : Nat} {rows : Mat} {x y : List Int} (h4 : n ≤ 4) (h : Sq n n rows) (hij : i ≠ j) (hi : rows[i]? = some x) (hj : rows[j]? = some y) : detN n ((rows.set i y).set j x) = - detN n rows := by
  have hil := (List.getElem?_eq_some_iff.mp hi).1
  have hjl := (List.getElem?_eq_some_iff.mp hj).1
  have hl := h.1
  have e := swap_of hij (show i < n by omega) (show j < n by omega) (fun rows x hq h1 h2 => det_alt' h4 hq hij h1 h2) h (x := y) (y := x) (h.2 y (List.mem_of_getElem? hj)) (h.2 x (List.mem_of_getElem? hi))
  rw [e, set_same hi, set_same hj]
/-- so many times another row put to one -/
theorem det_add {n i j : Nat} {rows : Mat} {x y : List Int} (m : Int) (h4 : n ≤ 4) (h : Sq n n rows) (hij : i ≠ j) (hi : rows[i]? = some x) (hj : rows[j]? = some y) : detN n (rows.set i (vAdd x m y)) = detN n rows := by
  have hil := (List.getElem?_eq_some_iff.mp hi).1
  have hl := h.1
  have hx := h.2 x (List.mem_of_getElem? hi)
  have hy := h.2 y (List.mem_of_getElem? hj)
  rw [det_lin n rows i x y m h (by omega) hx hy, set_same hi, det_alt' (x := y) h4 (h.set hy) hij (by rw [List.getElem?_set_self hil]) (by rw [List.getElem?_set_ne hij]; exact hj), Int.mul_zero, Int.add_zero]
/-- a row so many times -/
theorem det_scale {n i : Nat} {rows : Mat} {x : List Int} (m : Int) (h : Sq n n rows) (hi : i < n) (hx : x.length = n) : detN n (rows.set i (x.map (m * ·))) = m * detN n (rows.set i x) := by
  have e : x.map (m * ·) = vAdd x (m - 1) x := by
    unfold vAdd
    rw [List.zipWith_self]
    exact List.map_congr_left fun a _ => by grind
  rw [e, det_lin n rows i x x (m - 1) h hi hx hx]
  grind
/-! ### what rows span; rows of steps -/
inductive Span (n : Nat) (rows : Mat) : List Int → Prop
  | zero : Span n rows (List.replicate n 0)
  | add {x r : List Int} (m : Int) : Span n rows x → r ∈ rows → Span n rows (vAdd x m r)
theorem Span.len {m n : Nat} {rows : Mat} (h : Sq m n rows) {x : List Int} (s : Span n rows x) : x.length = n := by
  induction s with
  | zero => simp
  | add k _ hr ih => exact vAdd_len ih (h.2 _ hr)
theorem vAdd_zero {n : Nat} {x : List Int} {m : Int} (h : x.length = n) : vAdd x m (List.replicate n 0) = x := by
  unfold vAdd
  refine List.ext_getElem (by rw [List.length_zipWith, List.length_replicate]; omega) fun i h1 h2 => ?_
  rw [List.getElem_zipWith, List.getElem_replicate]
  omega
theorem zero_vAdd {n : Nat} {x : List Int} (h : x.length = n) : vAdd (List.replicate n 0) 1 x = x := by
  unfold vAdd
  refine List.ext_getElem (by rw [List.length_zipWith, List.length_replicate]; omega) fun i h1 h2 => ?_
  rw [List.getElem_zipWith, List.getElem_replicate]
  omega
theorem vAdd_assoc {n : Nat} {x y z : List Int} {k m : Int} (hx : x.length = n) (hy : y.length = n) (hz : z.length = n) : vAdd x k (vAdd y m z) = vAdd (vAdd x k y) (k * m) z := by
  unfold vAdd
  refine List.ext_getElem (by simp only [List.length_zipWith]; omega) fun i h1 h2 => ?_
  simp only [List.getElem_zipWith]
  grind
theorem Span.of_mem {m n : Nat} {rows : Mat} (h : Sq m n rows) {r : List Int} (hr : r ∈ rows) : Span n rows r := by
  rw [← zero_vAdd (h.2 r hr)]
  exact .add 1 .zero hr
theorem Span.vadd {m n : Nat} {rows : Mat} (h : Sq m n rows) {x y : List Int} (sx : Span n rows x) (k : Int) (sy : Span n rows y) : Span n rows (vAdd x k y) := by
  induction sy with
  | zero => rw [vAdd_zero (sx.len h)]; exact sx
  | add c sy hr ih =>
    rw [vAdd_assoc (sx.len h) (sy.len h) (h.2 _ hr)]
    exact .add _ ih hr
theorem Span.trans {m m' n : Nat} {rows rows' : Mat} (h : Sq m n rows) (h' : Sq m' n rows') (hr : ∀ r ∈ rows', Span n rows r) {x : List Int} (s : Span n rows' x) : Span n rows x := by
  induction s with
  | zero => exact .zero
  | add k _ hm ih => exact ih.vadd h k (hr _ hm)
/-- by determinants: what is spanned is told by whole numbers -/
theorem Span.dvd {n : Nat} {rows : Mat} (h4 : n ≤ 4) (h : Sq n n rows) {x : List Int} (s : Span n rows x) {i : Nat} (hi : i < n) : detN n rows ∣ detN n (rows.set i x) := by
  have hl := h.1
  induction s with
  | zero =>
    have e : (List.replicate n (0 : Int)) = (List.replicate n (0 : Int)).map (0 * ·) := by simp
    rw [e, det_scale 0 h hi (by simp), Int.zero_mul]
    exact Int.dvd_zero _
  | @add x r k sx hr ih =>
    rw [det_lin n rows i x r k h hi (sx.len h) (h.2 r hr)]
    refine Int.dvd_add ih (Int.dvd_mul_of_dvd_right ?_)
    obtain ⟨j, hj⟩ := List.getElem?_of_mem hr
    by_cases e : i = j
    · subst e
      rw [set_same hj]
      exact Int.dvd_refl _
    · rw [det_alt' (x := r) h4 (h.set (h.2 r hr)) e (by rw [List.getElem?_set_self (by omega)]) (by rw [List.getElem?_set_ne e]; exact hj)]
      exact Int.dvd_zero _
theorem get_erase (r : List Int) (k c : Nat) : (r.eraseIdx k).getD c 0 = if c < k then r.getD c 0 else r.getD (c + 1) 0 := by
  rw [List.getD_eq_getElem?_getD, List.getElem?_eraseIdx]
  split <;> rw [List.getD_eq_getElem?_getD]
theorem det_col0 : ∀ (n : Nat) (rows : Mat), 0 < n → Sq n n rows → (∀ r ∈ rows, r.getD 0 0 = 0) → detN n rows = 0
  | 0, _, h, _, _ => by omega
  | n + 1, [], _, h, _ => by have := h.1; simp at this
  | n + 1, r :: rest, _, h, hz => by
    obtain ⟨hr, ht⟩ := h.tail
    show sumR (n + 1) (fun k => r.getD k 0 * sg k * detN n (minor k rest)) = 0
    refine sumR_zero fun k hk => ?_
    by_cases h0 : k = 0
    · subst h0
      rw [hz r (by simp), Int.zero_mul, Int.zero_mul]
    · rw [det_col0 n (minor k rest) (by omega) (ht.minor hk) (fun x hx => by
        obtain ⟨y, hy, rfl⟩ := List.mem_map.mp hx
        rw [get_erase, if_pos (by omega)]
        exact hz y (List.mem_cons_of_mem _ hy)), Int.mul_zero]
/-- noughts below the diagonal -/
def Tri (o : Nat) (rows : Mat) : Prop := ∀ (i : Nat) (r : List Int), rows[i]? = some r → ∀ c, c < o + i → r.getD c 0 = 0
/-- the product of the diagonal, from the place o on -/
def prodD : Nat → Mat → Int
  | _, [] => 1
  | o, r :: rows => r.getD o 0 * prodD (o + 1) rows
theorem prodD_minor : ∀ (o : Nat) (rows : Mat), prodD o (minor 0 rows) = prodD (o + 1) rows
  | _, [] => rfl
  | o, r :: rows => by
    show (r.eraseIdx 0).getD o 0 * prodD (o + 1) (minor 0 rows) = r.getD (o + 1) 0 * prodD (o + 1 + 1) rows
    rw [prodD_minor (o + 1) rows, get_erase, if_neg (by omega)]
theorem det_tri : ∀ (n : Nat) (rows : Mat), Sq n n rows → Tri 0 rows → detN n rows = prodD 0 rows
  | 0, [], _, _ => rfl
  | 0, r :: rows, h, _ => by have := h.1; simp at this
  | n + 1, [], h, _ => by have := h.1; simp at this
  | n + 1, r :: rest, h, ht => by
    obtain ⟨hr, hs⟩ := h.tail
    have key : ∀ m, m ≤ n → sumR (m + 1) (fun k => r.getD k 0 * sg k * detN n (minor k rest)) = r.getD 0 0 * detN n (minor 0 rest) := by
      intro m
      induction m with
      | zero =>
        intro _
        show (0 : Int) + r.getD 0 0 * sg 0 * detN n (minor 0 rest) = _
        rw [show sg 0 = 1 from rfl]
        grind
      | succ m ih =>
        intro hm
        show sumR (m + 1) _ + r.getD (m + 1) 0 * sg (m + 1) * detN n (minor (m + 1) rest) = _
        rw [ih (by omega), det_col0 n (minor (m + 1) rest) (by omega) (hs.minor (by omega)) (fun x hx => by
          obtain ⟨y, hy, rfl⟩ := List.mem_map.mp hx
          rw [get_erase, if_pos (by omega)]
          obtain ⟨i, hi⟩ := List.getElem?_of_mem hy
          exact ht (i + 1) y (by simpa using hi) 0 (by omega)), Int.mul_zero, Int.add_zero]
    show sumR (n + 1) (fun k => r.getD k 0 * sg k * detN n (minor k rest)) = r.getD 0 0 * prodD 1 rest
    rw [key n (Nat.le_refl _), det_tri n (minor 0 rest) (hs.minor (by omega)) (fun i x hx c hc => by
      unfold minor at hx
      rw [List.getElem?_map] at hx
      cases e : rest[i]? with
      | none => rw [e] at hx; cases hx
      | some y =>
        rw [e] at hx
        cases hx
        rw [get_erase, if_neg (by omega)]
        exact ht (i + 1) y (by simpa using e) (c + 1) (by omega)), prodD_minor]
end L3
namespace L3
open PySem PySem.Spec PyProof.Rows L2
local macro_rules | `(tactic| wtm_at "sh") => `(tactic| conv => whnf)
/-! ## rows in steps: the common measure's steps, and how far their numbers grow -/
theorem euc {x y : Int} (hy : y ≠ 0) : (x - x.fdiv y * y).natAbs < y.natAbs ∧ 0 ≤ y * (x - x.fdiv y * y) ∧ (x.fdiv y * y).natAbs + (x - x.fdiv y * y).natAbs ≤ x.natAbs + 2 * y.natAbs ∧ (0 ≤ x * y → (x.fdiv y * y).natAbs + (x - x.fdiv y * y).natAbs ≤ x.natAbs) := by
  have pos : ∀ {x y : Int}, 0 < y → (x - x.fdiv y * y).natAbs < y.natAbs ∧ 0 ≤ y * (x - x.fdiv y * y) ∧ (x.fdiv y * y).natAbs + (x - x.fdiv y * y).natAbs ≤ x.natAbs + 2 * y.natAbs ∧ (0 ≤ x * y → (x.fdiv y * y).natAbs + (x - x.fdiv y * y).natAbs ≤ x.natAbs) := fun {x y} hy => by
    rw [Int.fdiv_eq_ediv_of_nonneg x (by omega)]
    have e1 := Int.mul_ediv_add_emod x y
    have e2 := Int.emod_nonneg x (show y ≠ 0 by omega)
    have e3 := Int.emod_lt_of_pos x hy
    have e4 : x - x / y * y = x % y := by rw [Int.mul_comm]; omega
    rw [e4, Int.mul_comm (x / y) y]
    have e5 : 0 ≤ x → 0 ≤ y * (x / y) := fun h => Int.mul_nonneg (by omega) (Int.ediv_nonneg h (by omega))
    refine ⟨by omega, Int.mul_nonneg (by omega) e2, ?_, fun hxy => ?_⟩
    · rcases Int.lt_or_le x 0 with c | c
      · omega
      · have := e5 c; omega
    · rcases Int.lt_or_le x 0 with c | c
      · have := Int.mul_neg_of_neg_of_pos c hy
        omega
      · have := e5 c; omega
  rcases Int.lt_or_gt_of_ne hy with c | c
  · obtain ⟨h1, h2, h3, h4⟩ := pos (x := -x) (y := -y) (by omega)
    rw [Int.neg_fdiv_neg] at h1 h2 h3 h4
    have e : -x - x.fdiv y * -y = -(x - x.fdiv y * y) := by grind
    have e' : x.fdiv y * -y = -(x.fdiv y * y) := by grind
    rw [e] at h1 h2 h3 h4
    rw [e'] at h3 h4
    simp only [Int.natAbs_neg] at h1 h3 h4
    exact ⟨h1, by rw [Int.neg_mul_neg] at h2; exact h2, h3, fun h => h4 (by rw [Int.neg_mul_neg]; exact h)⟩
  · exact pos c
theorem euc_step {y u v m r : Int} {X : Nat} (h : (m * y).natAbs + r.natAbs ≤ X) : (u + -m * v).natAbs * y.natAbs + v.natAbs * r.natAbs ≤ u.natAbs * y.natAbs + v.natAbs * X := by
  have h1 : (u + -m * v).natAbs ≤ u.natAbs + m.natAbs * v.natAbs := by
    have := Int.natAbs_add_le u (-m * v)
    rw [Int.natAbs_mul, Int.natAbs_neg] at this
    exact this
  have h2 := Nat.mul_le_mul_right y.natAbs h1
  have h3 := Nat.mul_le_mul_left v.natAbs h
  rw [Int.natAbs_mul] at h3
  rw [Nat.add_mul] at h2
  have e : v.natAbs * (m.natAbs * y.natAbs + r.natAbs) = m.natAbs * v.natAbs * y.natAbs + v.natAbs * r.natAbs := by grind
  omega
def BdL (K : Nat) (U : List Int) : Prop := ∀ c, (U.getD c 0).natAbs ≤ K
/-- two rows between the common measure's steps -/
def PairInv (K pl : Nat) (U V : List Int) : Prop := 0 ≤ U.getD pl 0 * V.getD pl 0 ∧ U.getD pl 0 ≠ 0 ∧ ∀ c, (U.getD c 0).natAbs * (V.getD pl 0).natAbs + (V.getD c 0).natAbs * (U.getD pl 0).natAbs ≤ K
def PairFirst (K pl : Nat) (U V : List Int) : Prop := ∀ c, (U.getD c 0).natAbs * (V.getD pl 0).natAbs + (V.getD c 0).natAbs * ((U.getD pl 0).natAbs + 2 * (V.getD pl 0).natAbs) ≤ K
theorem getD_big {l : List Int} {c : Nat} (h : l.length ≤ c) : l.getD c 0 = 0 := by
  rw [List.getD_eq_getElem?_getD, List.getElem?_eq_none h]; rfl
theorem vAdd_getD {x y : List Int} {m : Int} (h : x.length = y.length) (c : Nat) : (vAdd x m y).getD c 0 = x.getD c 0 + m * y.getD c 0 := by
  by_cases hc : c < x.length
  · exact vAdd_get hc (by omega)
  · rw [getD_big (by rw [vAdd_len (n := x.length) rfl h.symm]; omega), getD_big (by omega), getD_big (by omega)]
    simp
theorem pair_step {K pl : Nat} {U V : List Int} (hl : U.length = V.length) (hU : BdL K U) (hV : BdL K V) (hy : V.getD pl 0 ≠ 0) (h : PairInv K pl U V ∨ PairFirst K pl U V) :
    PairInv K pl V (vAdd U (-((U.getD pl 0).fdiv (V.getD pl 0))) V) ∧ BdL K (vAdd U (-((U.getD pl 0).fdiv (V.getD pl 0))) V) ∧ ((vAdd U (-((U.getD pl 0).fdiv (V.getD pl 0))) V).getD pl 0).natAbs < (V.getD pl 0).natAbs := by
  obtain ⟨e1, e2, e3, e4⟩ := euc (x := U.getD pl 0) hy
  have er : (vAdd U (-((U.getD pl 0).fdiv (V.getD pl 0))) V).getD pl 0 = U.getD pl 0 - (U.getD pl 0).fdiv (V.getD pl 0) * V.getD pl 0 := by
    rw [vAdd_getD hl, Int.neg_mul]; omega
  have key : ∀ c, ((vAdd U (-((U.getD pl 0).fdiv (V.getD pl 0))) V).getD c 0).natAbs * (V.getD pl 0).natAbs + (V.getD c 0).natAbs * (U.getD pl 0 - (U.getD pl 0).fdiv (V.getD pl 0) * V.getD pl 0).natAbs ≤ K := fun c => by
    rw [vAdd_getD hl]
    rcases h with ⟨h1, h2, h3⟩ | h
    · exact Nat.le_trans (euc_step (e4 h1)) (h3 c)
    · exact Nat.le_trans (euc_step e3) (h c)
  refine ⟨⟨by rw [er]; exact e2, hy, fun c => ?_⟩, fun c => ?_, by rw [er]; exact e1⟩
  · rw [er]
    have := key c
    omega
  · have h1 := key c
    have h2 : 1 ≤ (V.getD pl 0).natAbs := by omega
    have h3 := Nat.mul_le_mul_left ((vAdd U (-((U.getD pl 0).fdiv (V.getD pl 0))) V).getD c 0).natAbs h2
    omega
/-- all numbers of a row so small -/
def SzL (n : Nat) (U : List Int) : Prop := ∀ c, Sz n (U.getD c 0)
theorem SzL.mono {n m : Nat} {U : List Int} (h : SzL n U) (k : n ≤ m) : SzL m U := fun c => (h c).mono k
theorem SzL.mem {n : Nat} {U : List Int} (h : SzL n U) {a : Int} (ha : a ∈ U) : Sz n a := by
  obtain ⟨c, hc⟩ := List.getElem?_of_mem ha
  have := h c
  rw [List.getD_eq_getElem?_getD, hc] at this
  exact this
theorem first_of {B1 B2 pl : Nat} {U V : List Int} (hU : SzL B1 U) (hV : SzL B2 V) (hb : B2 ≤ B1) : PairFirst (2 ^ (B1 + B2 + 2)) pl U V ∧ BdL (2 ^ (B1 + B2 + 2)) U ∧ BdL (2 ^ (B1 + B2 + 2)) V := by
  have p1 : (2 : Nat) ^ (B1 + B2 + 2) = 4 * 2 ^ (B1 + B2) := by rw [Nat.pow_add]; omega
  have p2 : (2 : Nat) ^ (B1 + B2) = 2 ^ B1 * 2 ^ B2 := Nat.pow_add ..
  have p3 : (2 : Nat) ^ B2 ≤ 2 ^ B1 := Nat.pow_le_pow_right (by decide) hb
  refine ⟨fun c => ?_, fun c => ?_, fun c => ?_⟩
  · have u := hU c; have x := hU pl; have v := hV c; have y := hV pl
    unfold Sz at u x v y
    have m1 : (U.getD c 0).natAbs * (V.getD pl 0).natAbs ≤ 2 ^ B1 * 2 ^ B2 := Nat.mul_le_mul (by omega) (by omega)
    have m2 : (V.getD c 0).natAbs * (U.getD pl 0).natAbs ≤ 2 ^ B2 * 2 ^ B1 := Nat.mul_le_mul (by omega) (by omega)
    have m3 : (V.getD c 0).natAbs * (V.getD pl 0).natAbs ≤ 2 ^ B1 * 2 ^ B2 := Nat.mul_le_mul (by omega) (by omega)
    rw [Nat.mul_comm (2 ^ B2)] at m2
    have e : (V.getD c 0).natAbs * ((U.getD pl 0).natAbs + 2 * (V.getD pl 0).natAbs) = (V.getD c 0).natAbs * (U.getD pl 0).natAbs + 2 * ((V.getD c 0).natAbs * (V.getD pl 0).natAbs) := by grind
    omega
  · have u := hU c
    unfold Sz at u
    have : (2 : Nat) ^ B1 ≤ 2 ^ (B1 + B2 + 2) := Nat.pow_le_pow_right (by decide) (by omega)
    omega
  · have u := hV c
    unfold Sz at u
    have : (2 : Nat) ^ B2 ≤ 2 ^ (B1 + B2 + 2) := Nat.pow_le_pow_right (by decide) (by omega)
    omega
theorem BdL.sz {B : Nat} {U : List Int} (h : BdL (2 ^ B) U) : SzL (B + 1) U := fun c => by
  have := h c
  unfold Sz
  rw [Nat.pow_succ]
  have : (0 : Nat) < 2 ^ B := Nat.pow_pos (by decide)
  omega
theorem fdiv_le {x y : Int} : (x.fdiv y).natAbs ≤ x.natAbs := by
  by_cases hy : y = 0
  · subst hy; simp
  have pos : ∀ {x y : Int}, 0 < y → (x.fdiv y).natAbs ≤ x.natAbs := fun {x y} hy => by
    rw [Int.fdiv_eq_ediv_of_nonneg x (by omega)]
    have e1 := Int.mul_ediv_add_emod x y
    have e2 := Int.emod_nonneg x (show y ≠ 0 by omega)
    have e3 := Int.emod_lt_of_pos x hy
    rcases Int.lt_or_le x 0 with c | c
    · have h1 : x / y < 0 := Int.ediv_neg_of_neg_of_pos c hy
      have h2 : x ≤ x / y := by
        have : y * (x / y) ≤ 1 * (x / y) := Int.mul_le_mul_of_nonpos_right (by omega) (by omega)
        rcases Int.lt_or_le (x / y) x with q | q
        · have h3 : y * (x / y) ≤ y * (x - 1) := Int.mul_le_mul_of_nonneg_left (by omega) (by omega)
          have h4 : y * (x - 1) ≤ 1 * (x - 1) := Int.mul_le_mul_of_nonpos_right (by omega) (by omega)
          have h5 : y * (x - 1) ≤ (x - 1) + (y - 1) * (-1) := by
            have : (y - 1) * (x - 1) ≤ (y - 1) * (-1) := Int.mul_le_mul_of_nonneg_left (by omega) (by omega)
            have e : y * (x - 1) = (x - 1) + (y - 1) * (x - 1) := by grind
            omega
          omega
        · exact q
      omega
    · have h1 := Int.ediv_nonneg c (show 0 ≤ y by omega)
      have h2 := Int.ediv_le_self y c
      omega
  rcases Int.lt_or_gt_of_ne hy with c | c
  · have := pos (x := -x) (y := -y) (by omega)
    rw [Int.neg_fdiv_neg, Int.natAbs_neg] at this
    exact this
  · exact pos c
end L3
namespace L3
open PySem PySem.Spec PyProof.Rows L2
local macro_rules | `(tactic| wtm_at "sh") => `(tactic| conv => whnf)
/-- rows that tell the same, stepped up to the place k -/
structure Ph (n k : Nat) (rows0 rows : Mat) : Prop where
  sq : Sq n n rows
  lo : ∀ (i : Nat) (r : List Int), rows[i]? = some r → ∀ c, c < k → c < i → r.getD c 0 = 0
  dg : ∀ (i : Nat) (r : List Int), rows[i]? = some r → i < k → 0 ≤ r.getD i 0
  dt : (detN n rows).natAbs = (detN n rows0).natAbs
  sp : ∀ r ∈ rows, Span n rows0 r
  ps : ∀ r ∈ rows0, Span n rows r
theorem Ph.zero {n : Nat} {rows : Mat} (h : Sq n n rows) : Ph n 0 rows rows :=
  ⟨h, fun _ _ _ c hc => by omega, fun _ _ _ hi => by omega, rfl, fun r hr => .of_mem h hr, fun r hr => .of_mem h hr⟩
theorem mem_set2 {rows : Mat} {i j : Nat} {x y r : List Int} (h : r ∈ (rows.set i x).set j y) : r ∈ rows ∨ r = x ∨ r = y := by
  rcases List.mem_or_eq_of_mem_set h with h | h
  · rcases List.mem_or_eq_of_mem_set h with h | h
    · exact .inl h
    · exact .inr (.inl h)
  · exact .inr (.inr h)
theorem get_set2 {rows : Mat} {i j a : Nat} {x y r : List Int} (hij : i ≠ j) (h : ((rows.set i x).set j y)[a]? = some r) : (a = i ∧ r = x) ∨ (a = j ∧ r = y) ∨ (a ≠ i ∧ a ≠ j ∧ rows[a]? = some r) := by
  have hlt := (List.getElem?_eq_some_iff.mp h).1
  rw [List.length_set, List.length_set] at hlt
  by_cases h1 : a = j
  · subst h1
    rw [List.getElem?_set_self (by rw [List.length_set]; exact hlt)] at h
    exact .inr (.inl ⟨rfl, (Option.some.inj h).symm⟩)
  · rw [List.getElem?_set_ne (Ne.symm h1)] at h
    by_cases h2 : a = i
    · subst h2
      rw [List.getElem?_set_self hlt] at h
      exact .inl ⟨rfl, (Option.some.inj h).symm⟩
    · rw [List.getElem?_set_ne (Ne.symm h2)] at h
      exact .inr (.inr ⟨h2, h1, h⟩)
theorem vAdd_back {x y : List Int} {m : Int} (h : x.length = y.length) : vAdd (vAdd x (-m) y) m y = x := by
  unfold vAdd
  refine List.ext_getElem (by simp only [List.length_zipWith]; omega) fun i h1 h2 => ?_
  simp only [List.getElem_zipWith]
  grind
theorem Ph.step {n k at_ : Nat} {rows0 rows : Mat} {U V : List Int} (m : Int) (h4 : n ≤ 4) (h0 : Sq n n rows0) (h : Ph n k rows0 rows) (hk : k < at_) (hU : rows[k]? = some U) (hV : rows[at_]? = some V) : Ph n k rows0 ((rows.set k V).set at_ (vAdd U (-m) V)) := by
  have lU := h.sq.2 U (List.mem_of_getElem? hU)
  have lV := h.sq.2 V (List.mem_of_getElem? hV)
  have kl := (List.getElem?_eq_some_iff.mp hU).1
  have al := (List.getElem?_eq_some_iff.mp hV).1
  have lv : (vAdd U (-m) V).length = n := vAdd_len lU lV
  have sq' : Sq n n ((rows.set k V).set at_ (vAdd U (-m) V)) := (h.sq.set lV).set lv
  have ne : k ≠ at_ := by omega
  have uSp := h.sp U (List.mem_of_getElem? hU)
  have vSp := h.sp V (List.mem_of_getElem? hV)
  refine ⟨sq', fun i r hi c hc hci => ?_, fun i r hi hik => ?_, ?_, fun r hr => ?_, fun r hr => ?_⟩
  · rcases get_set2 ne hi with ⟨rfl, rfl⟩ | ⟨rfl, rfl⟩ | ⟨_, _, hi⟩
    · exact h.lo at_ _ hV c hc (by omega)
    · rw [vAdd_getD (by omega), h.lo k _ hU c hc (by omega), h.lo i _ hV c hc (by omega)]; simp
    · exact h.lo i r hi c hc hci
  · rcases get_set2 ne hi with ⟨rfl, rfl⟩ | ⟨rfl, rfl⟩ | ⟨_, _, hi⟩
    · omega
    · omega
    · exact h.dg i r hi hik
  · have e1 := det_add (-m) h4 h.sq ne hU hV
    have hk' : (rows.set k (vAdd U (-m) V))[k]? = some (vAdd U (-m) V) := by rw [List.getElem?_set_self kl]
    have ha' : (rows.set k (vAdd U (-m) V))[at_]? = some V := by rw [List.getElem?_set_ne ne]; exact hV
    have e2 := det_swap h4 (h.sq.set lv) ne hk' ha'
    rw [List.set_set] at e2
    rw [e2, Int.natAbs_neg, e1, h.dt]
  · rcases mem_set2 hr with hr | rfl | rfl
    · exact h.sp r hr
    · exact vSp
    · exact uSp.vadd h0 _ vSp
  · refine Span.trans sq' h.sq (fun s hs => ?_) (h.ps r hr)
    obtain ⟨i, hi⟩ := List.getElem?_of_mem hs
    have mV : V ∈ (rows.set k V).set at_ (vAdd U (-m) V) := List.mem_of_getElem? (i := k) (by rw [List.getElem?_set_ne (Ne.symm ne), List.getElem?_set_self kl])
    have mW : vAdd U (-m) V ∈ (rows.set k V).set at_ (vAdd U (-m) V) := List.mem_of_getElem? (i := at_) (by rw [List.getElem?_set_self (by rw [List.length_set]; exact al)])
    by_cases h1 : i = k
    · subst h1
      rw [hU] at hi
      cases hi
      have z := (Span.of_mem sq' mW).vadd sq' m (.of_mem sq' mV)
      rw [vAdd_back (by omega)] at z
      exact z
    · by_cases h2 : i = at_
      · subst h2
        rw [hV] at hi
        cases hi
        exact .of_mem sq' mV
      · exact .of_mem sq' (List.mem_of_getElem? (i := i) (by rw [List.getElem?_set_ne (Ne.symm h2), List.getElem?_set_ne (Ne.symm h1)]; exact hi))
theorem neg_scale (U : List Int) : U.map (fun a => 0 - a) = U.map ((-1) * ·) := List.map_congr_left fun a _ => by omega
theorem neg_vAdd {n : Nat} {U : List Int} (h : U.length = n) : U.map (fun a => 0 - a) = vAdd (List.replicate n 0) (-1) U := by
  unfold vAdd
  refine List.ext_getElem (by rw [List.length_zipWith, List.length_map, List.length_replicate]; omega) fun i h1 h2 => ?_
  rw [List.getElem_map, List.getElem_zipWith, List.getElem_replicate]
  omega
theorem neg_getD (U : List Int) (c : Nat) : (U.map fun a => 0 - a).getD c 0 = - U.getD c 0 := by
  rw [List.getD_eq_getElem?_getD, List.getD_eq_getElem?_getD, List.getElem?_map]
  cases U[c]? with
  | none => simp
  | some a => simp
theorem Ph.neg {n k : Nat} {rows0 rows : Mat} {U : List Int} (h0 : Sq n n rows0) (h : Ph n k rows0 rows) (hU : rows[k]? = some U) : Ph n k rows0 (rows.set k (U.map fun a => 0 - a)) := by
  have lU := h.sq.2 U (List.mem_of_getElem? hU)
  have kl := (List.getElem?_eq_some_iff.mp hU).1
  have hl := h.sq.1
  have sq' : Sq n n (rows.set k (U.map fun a => 0 - a)) := h.sq.set (by rw [List.length_map]; exact lU)
  have gs : ∀ {i : Nat} {r : List Int}, (rows.set k (U.map fun a => 0 - a))[i]? = some r → (i = k ∧ r = U.map fun a => 0 - a) ∨ (i ≠ k ∧ rows[i]? = some r) := fun {i r} hi => by
    by_cases e : i = k
    · subst e
      rw [List.getElem?_set_self kl] at hi
      exact .inl ⟨rfl, (Option.some.inj hi).symm⟩
    · rw [List.getElem?_set_ne (Ne.symm e)] at hi
      exact .inr ⟨e, hi⟩
  have mN : (U.map fun a => 0 - a) ∈ rows.set k (U.map fun a => 0 - a) := List.mem_of_getElem? (i := k) (by rw [List.getElem?_set_self kl])
  refine ⟨sq', fun i r hi c hc hci => ?_, fun i r hi hik => ?_, ?_, fun r hr => ?_, fun r hr => ?_⟩
  · rcases gs hi with ⟨rfl, rfl⟩ | ⟨_, hi⟩
    · rw [neg_getD, h.lo i _ hU c hc hci]; rfl
    · exact h.lo i r hi c hc hci
  · rcases gs hi with ⟨rfl, rfl⟩ | ⟨_, hi⟩
    · omega
    · exact h.dg i r hi hik
  · rw [neg_scale, det_scale (-1) h.sq (by omega) lU, set_same hU, ← h.dt]
    rw [Int.natAbs_mul]
    simp
  · rcases List.mem_or_eq_of_mem_set hr with hr | rfl
    · exact h.sp r hr
    · rw [neg_vAdd lU]
      exact Span.vadd h0 .zero _ (h.sp U (List.mem_of_getElem? hU))
  · refine Span.trans sq' h.sq (fun s hs => ?_) (h.ps r hr)
    obtain ⟨i, hi⟩ := List.getElem?_of_mem hs
    by_cases h1 : i = k
    · subst h1
      rw [hU] at hi
      cases hi
      have e : U = vAdd (List.replicate n 0) (-1) (U.map fun a => 0 - a) := by
        rw [← neg_vAdd (by rw [List.length_map]; exact lU), List.map_map]
        conv => lhs; rw [← List.map_id U]
        exact List.map_congr_left fun a _ => by simp
      have z := Span.vadd sq' .zero (-1) (.of_mem sq' mN)
      rw [← e] at z
      exact z
    · exact .of_mem sq' (List.mem_of_getElem? (i := i) (by rw [List.getElem?_set_ne (Ne.symm h1)]; exact hi))
/-- rows in steps -/
structure Steps (n : Nat) (rows0 rows : Mat) : Prop where
  sq : Sq n n rows
  tri : Tri 0 rows
  dg : ∀ (i : Nat) (r : List Int), rows[i]? = some r → 0 ≤ r.getD i 0
  dt : (detN n rows).natAbs = (detN n rows0).natAbs
  sp : ∀ r ∈ rows, Span n rows0 r
  ps : ∀ r ∈ rows0, Span n rows r
theorem Ph.done {n : Nat} {rows0 rows : Mat} (h : Ph n n rows0 rows) : Steps n rows0 rows :=
  ⟨h.sq, fun i r hi c hc => h.lo i r hi c (by have := (List.getElem?_eq_some_iff.mp hi).1; have := h.sq.1; omega) (by omega), fun i r hi => h.dg i r hi (by have := (List.getElem?_eq_some_iff.mp hi).1; have := h.sq.1; omega), h.dt, h.sp, h.ps⟩
end L3
namespace L3
open PySem PySem.Spec PyProof.Rows L2
local macro_rules | `(tactic| wtm_at "sh") => `(tactic| conv => whnf)
/-! ## rows of numbers, as data -/
abbrev rowD (r : List Int) : PyData := .list (r.map PyData.int)
abbrev rowT (r : List Int) : PyData := .tuple (r.map PyData.int)
abbrev matP (rows : Mat) : PyData := .tuple (rows.map rowT)
abbrev matO (p : Addr) (rows : Mat) : T := .own p (rows.map fun r => T.d (rowD r))
/-- a row, told as a tuple or as a list -/
def seqB (b : Bool) (r : List Int) : PyData := match b with | true => rowT r | false => rowD r
theorem seqB_of (b : Bool) (r : List Int) : (seqOf (.d (seqB b r))).map (·.2) = some (r.map PyData.int) := by cases b <;> rfl
def N_taken_off : List Str := ["row", "many", "other", "number", "beside"]
def body_taken_off : TS3 := (xRet (xLc (xZipX (xView 0) (xView 2)) (xGTup 2 (xGCons (xGName 3) (xGCons (xGName 4) xGNil))) xYes (xD (x2 kSub (xView 3) (x2 kMul (xView 1) (xView 4)))) [3, 4]))
def sp_taken_off : Sp3 := fun ts Q _ => ∃ p q x y m n k, ts = [.d (seqB p x), .d (.int m), .d (seqB q y)] ∧ Sz n m ∧ (∀ b ∈ y, Sz k b) ∧ n + k < 1000000 ∧ x.length ≤ 1000 ∧ y.length = x.length ∧ ∀ pa, Q (.own pa ((vAdd x (-m) y).map fun a => T.d (.int a))) ts
theorem v_taken_off (ts Q E) (h : sp_taken_off ts Q E) : body_taken_off { nx := fun r => finOk ts r ∧ Q (.d .none) (finF ts r), rt := fun x r => finOk ts r ∧ Q x (finF ts r) } (start3 N_taken_off ts) := by
  obtain ⟨p, q, x, y, m, n, k, rfl, hm, hy, hnk, hx, hl, kk⟩ := h
  have hb : 1000 < sizeLine := by decide
  have hlen : (vAdd x (-m) y).length = x.length := vAdd_len rfl hl
  refine ⟨_, _, seqB_of p x, seqB_of q y, lc_gen ((vAdd x (-m) y).map PyData.int) (by rw [zipD_len, List.length_map, List.length_map, List.length_map]; omega) (by rw [zipD_len, List.length_map, List.length_map]; omega) (fun r0 h0 i u w hu hw R S ku => ?_) fun r0 h0 pa => ?_⟩
  · simp only [wp, puts, List.set_cons_succ, List.set_cons_zero] at h0; subst h0
    obtain ⟨a, b, ha, hb2, rfl⟩ := zip_at hu
    have hw2 : (vAdd x (-m) y)[i]? = some (a + -m * b) := by unfold vAdd; rw [List.getElem?_zipWith, ha, hb2]
    rw [List.getElem?_map, hw2] at hw
    cases hw
    refine ⟨rfl, fun _ => ⟨mulOk hm (hy b (List.mem_of_getElem? hb2)) hnk, ?_⟩, nofun⟩
    rw [show a + -m * b = a - m * b by rw [Int.neg_mul]; omega] at ku
    exact ku _ rfl
  · simp only [wp, puts, List.set_cons_succ, List.set_cons_zero] at h0; subst h0
    refine ⟨⟨⟩, ?_⟩
    rw [List.map_map]
    exact kk pa
/-- a comprehension that chooses -/
theorem lf_gen {α : Type} {f : α → PyData} (h : α → PyData) (pr : α → Bool) (l : List α) (hsz : l.length ≤ sizeLine) {r1 : Rho} {js : List Nat} {g : TG3} {tt : TT3} {te : TE3} {Fin : Addr → List T → Rho → Prop}
    (turn : ∀ r0, wp r1 js = r0 → ∀ u, u ∈ l → ∀ (R : T → Rho → Prop) (S : Rho → Prop), (pr u = true → ∀ r4, wp r4 js = r0 → R (.d (h u)) r4) → (pr u = false → ∀ r3, wp r3 js = r0 → S r3) → g (.d (f u)) r0 fun r2 => tt r2 fun b r3 => (b = true → te r3 R) ∧ (b = false → S r3))
    (fin : ∀ r0, wp r1 js = r0 → ∀ p, Fin p ((l.filter pr).map fun u => T.d (h u)) r0) :
    ∀ p, ∃ W : Nat → List T → Rho → Prop, W 0 [] (wp r1 js) ∧
      (∀ (i : Nat) (x : PyData) (acc : List T) (r : Rho), (l.map f)[i]? = some x → W i acc r → g (.d x) r fun r2 => tt r2 fun b r3 => (b = true → te r3 fun y r4 => acc.length < sizeLine ∧ W (i + 1) (acc ++ [y]) (wp r4 js)) ∧ (b = false → W (i + 1) acc (wp r3 js))) ∧
      ∀ acc r, W (l.map f).length acc r → Fin p acc r := fun p => by
  refine ⟨fun i acc r => r = wp r1 js ∧ acc = ((l.take i).filter pr).map fun u => T.d (h u), ⟨rfl, rfl⟩, fun i x acc r hx hW => ?_, fun acc r hW => ?_⟩
  · obtain ⟨rfl, rfl⟩ := hW
    obtain ⟨u, hu, rfl⟩ := get_fun hx
    have hi : i < l.length := (List.getElem?_eq_some_iff.mp hu).1
    refine turn _ rfl u (List.mem_of_getElem? hu) _ _ (fun e r4 h4 => ⟨?_, h4, ?_⟩) (fun e r3 h3 => ⟨h3, ?_⟩)
    · rw [List.length_map]
      have := List.length_filter_le pr (l.take i)
      rw [List.length_take] at this
      omega
    · rw [take_succ hu, List.filter_append, List.map_append, List.filter_cons_of_pos e]
      rfl
    · rw [take_succ hu, List.filter_append, List.map_append, List.filter_cons_of_neg (by rw [e]; decide)]
      simp
  · obtain ⟨rfl, rfl⟩ := hW
    rw [List.length_map, List.take_length]
    exact fin _ rfl p
def N_is_square : List Str := ["rows", "row"]
def body_is_square : TS3 := (xRet (xD (xAndV (x2 kGt (x1 cLen (xView 0)) (xC (.int 0))) (x2 kEq (xFz (xLc (xSeqI (xView 0)) (xGName 1) (xTest (x2 kNeI (x1 cLen (xView 1)) (x1 cLen (xView 0)))) (xMove 1) [1])) (xFz (xLst xNil))))))
def sqB (rows : Mat) : Bool := decide (0 < rows.length) && decide (∀ r ∈ rows, r.length = rows.length)
def sp_is_square : Sp3 := fun ts Q _ => ∃ rows, ts = [.d (matP rows)] ∧ rows.length ≤ 1000 ∧ (∀ r ∈ rows, r.length ≤ 1000) ∧ Q (.d (.bool (sqB rows))) ts
theorem nest_rows {rows : Mat} (h : rows.length < sizeLine) (k : ∀ r ∈ rows, r.length < sizeLine) : Nest 8 (.list (rows.map rowT)) := ⟨by rw [List.length_map]; exact h, fun x hx => by
  obtain ⟨r, hr, rfl⟩ := List.mem_map.mp hx
  exact ⟨by rw [List.length_map]; exact k r hr, fun y hy => by obtain ⟨z, _, rfl⟩ := List.mem_map.mp hy; exact ⟨⟩⟩⟩
theorem eqv_map_nil {α : Type} (f : α → PyData) (l : List α) : PyData.eqv (.list (l.map f)) (.list []) = decide (l = []) := by
  cases l with
  | nil => rfl
  | cons x l => simp [PyData.eqv, PyData.eqvAll]
theorem filter_none {α : Type} {pr : α → Bool} {l : List α} : (l.filter pr = []) ↔ ∀ u ∈ l, pr u = false := by
  rw [List.filter_eq_nil_iff]
  exact ⟨fun h u hu => by simpa using h u hu, fun h u hu => by rw [h u hu]; decide⟩
theorem v_is_square (ts Q E) (h : sp_is_square ts Q E) : body_is_square { nx := fun r => finOk ts r ∧ Q (.d .none) (finF ts r), rt := fun x r => finOk ts r ∧ Q x (finF ts r) } (start3 N_is_square ts) := by
  obtain ⟨rows, rfl, hlen, hrl, k⟩ := h
  have hb : 1000 < sizeLine := by decide
  have lm : (rows.map rowT).length = rows.length := List.length_map ..
  refine ⟨fun hc => ?_, fun hc => ?_⟩
  · have h0 : 0 < rows.length := by
      have : (0 : Int) < ((rows.map rowT).length : Int) := dT hc
      omega
    refine lf_gen rowT (fun r => decide (r.length ≠ rows.length)) rows (by omega) (fun r0 h0 u hu R S k1 k2 => ?_) fun r0 h0' p => ?_
    · simp only [wp, puts, List.set_cons_succ, List.set_cons_zero] at h0; subst h0
      have e : (!decide (((u.map PyData.int).length : Int) = ((rows.map rowT).length : Int))) = decide (u.length ≠ rows.length) := by
        rw [List.length_map, lm, ← decide_not]
        exact decide_eq_decide.mpr (by omega)
      exact ⟨fun hc2 => k1 (e.symm.trans hc2) _ rfl, fun hc2 => k2 (e.symm.trans hc2) _ rfl⟩
    · simp only [wp, puts, List.set_cons_succ, List.set_cons_zero] at h0'; subst h0'
      refine ⟨nvs_map _ _, sz 0, fun p2 => ⟨rfl, ?_⟩⟩
      rw [fz_own p rowT (rows.filter fun r => decide (r.length ≠ rows.length))]
      have fl := List.length_filter_le (fun r : List Int => decide (r.length ≠ rows.length)) rows
      refine ⟨nest_shaped (nest_rows (by omega) fun r hr => by have := hrl r (List.mem_filter.mp hr).1; omega) (by decide), shp_nilL, ⟨⟩, ?_⟩
      show Q (.d (.bool (PyData.eqv (.list ((rows.filter fun r => decide (r.length ≠ rows.length)).map rowT)) (.list [])))) _
      rw [eqv_map_nil]
      have e : decide ((rows.filter fun r => decide (r.length ≠ rows.length)) = []) = sqB rows := by
        unfold sqB
        rw [decide_eq_true h0, Bool.true_and]
        refine decide_eq_decide.mpr ?_
        rw [filter_none]
        exact ⟨fun h r hr => by have := h r hr; simpa using this, fun h r hr => by simp [h r hr]⟩
      rw [e]
      exact k
  · have h0 : ¬ 0 < rows.length := by
      have : ¬ (0 : Int) < ((rows.map rowT).length : Int) := dF hc
      omega
    have e : sqB rows = false := by
      unfold sqB
      rw [decide_eq_false h0]; rfl
    rw [e] at k
    exact ⟨⟨⟩, k⟩
theorem getI_at {α : Type} {l : List α} {k : Nat} {i : Int} {x : α} (e : i = (k : Int)) (h : l[k]? = some x) : getI l i = some x := by
  rw [e, getI_nat, h]
theorem setI_at {α : Type} {l : List α} {k : Nat} {i : Int} {x : α} (e : i = (k : Int)) (h : k < l.length) : setI l i x = some (l.set k x) := by
  subst e
  unfold setI
  rw [if_pos (by omega), if_pos (by omega)]
  rfl
theorem rowD_at {U : List Int} {k : Nat} {i : Int} (e : i = (k : Int)) (h : k < U.length) : getI (U.map PyData.int) i = some (.int (U.getD k 0)) := by
  refine getI_at e ?_
  rw [List.getElem?_map, List.getD_eq_getElem?_getD, List.getElem?_eq_getElem h]
  rfl
theorem matO_at {rows : Mat} {k : Nat} {i : Int} {U : List Int} (e : i = (k : Int)) (h : rows[k]? = some U) : getI (rows.map fun r => T.d (rowD r)) i = some (T.d (rowD U)) := by
  refine getI_at e ?_
  rw [List.getElem?_map, h]
  rfl
def L1_stepped : TS3 := (xFor (xR2 (x2 kAdd (xView 2) (xC (.int 1))) (x1 cLen (xView 1))) (xGName 3) (xWhile (xTest (x2 kNeI (x2 cIx (x2 cIx (xView 1) (xView 3)) (xView 2)) (xC (.int 0)))) (xSeq (xAsg (xD (x2 kDivF (x2 cIx (x2 cIx (xView 1) (xView 2)) (xView 2)) (x2 cIx (x2 cIx (xView 1) (xView 3)) (xView 2)))) (xGName 4))
  (xAsg (xTup (xCons (xD (x2 cIx (xView 1) (xView 3))) (xCons (xD (xFz (xCall sp_taken_off xNoE (xArg (x2 cIx (xView 1) (xView 2)) (xArg (xView 4) (xArg (x2 cIx (xView 1) (xView 3)) xANil)))))) xNil))) (xGTup 2 (xGCons (xGSub 1 (xView 2)) (xGCons (xGSub 1 (xView 3)) xGNil)))))))
def L2_stepped : TS3 := (xFor (xR1 (x1 cLen (xView 1))) (xGName 2) (xSeq L1_stepped
  (xIfS (xTest (x2 kLt (x2 cIx (x2 cIx (xView 1) (xView 2)) (xView 2)) (xC (.int 0)))) (xAsg (xD (xFz (xLc (xSeqI (x2 cIx (xView 1) (xView 2))) (xGName 6) xYes (xD (x2 kSub (xC (.int 0)) (xView 6))) [6]))) (xGSub 1 (xView 2))) xNext)))
def N_stepped : List Str := ["rows", "left", "place", "at", "many", "row", "number"]
def body_stepped : TS3 := (xSeq (xAsg (xLc (xSeqI (xView 0)) (xGName 5) xYes (xD (xFz (x1 cLst (xView 5)))) [5]) (xGName 1))
  (xSeq L2_stepped
  (xRet (xMove 1))))
theorem v_L1_stepped {D : Ends3} {pl : Addr} {rows0 rows : Mat} {n k b : Nat} {s3 s4 : Option T} (h4 : n ≤ 4) (h0 : Sq n n rows0) (hk : k < n) (h : Ph n k rows0 rows) (hB : ∀ r ∈ rows, SzL b r) (hb : (n - k) * b + 3 * (n - k - 1) < 9000)
    (q : ∀ rows' s3 s4, Ph n k rows0 rows' → (∀ (i : Nat) (r : List Int), rows'[i]? = some r → k < i → r.getD k 0 = 0) → (∀ r ∈ rows', SzL ((n - k) * b + 3 * (n - k - 1)) r) → D.nx [some (.d (matP rows0)), some (matO pl rows'), some (.d (.int (0 + (k : Nat)))), s3, s4, none, none]) :
    L1_stepped D [some (.d (matP rows0)), some (matO pl rows), some (.d (.int (0 + (k : Nat)))), s3, s4, none, none] := by
  have hl := h.sq.1
  have lm : ∀ rows : Mat, (rows.map fun r => T.d (rowD r)).length = rows.length := fun rows => List.length_map ..
  have hb2 : 1000 < sizeLine := by decide
  refine ⟨⟨by omega, by omega, ?_, ?_⟩, fun j r => ∃ rows' s3 s4, r = [some (.d (matP rows0)), some (matO pl rows'), some (.d (.int (0 + (k : Nat)))), s3, s4, none, none] ∧ Ph n k rows0 rows' ∧ (∀ (i : Nat) (r : List Int), rows'[i]? = some r → k < i → i < k + 1 + j → r.getD k 0 = 0) ∧ (∀ r ∈ rows', SzL ((j + 1) * b + 3 * j) r) ∧ (∀ (i : Nat) (r : List Int), rows'[i]? = some r → k + 1 + j ≤ i → SzL b r) ∧ k + 1 + j ≤ n, ⟨rows, _, _, rfl, h, fun i r _ h1 h2 => by omega, fun r hr => (hB r hr).mono (by omega), fun i r hi _ => hB r (List.mem_of_getElem? hi), by omega⟩, fun j x r hx hW => ?_, fun r hW => ?_⟩
  · show -(2 ^ 62) ≤ ((rows.map fun r => T.d (rowD r)).length : Int)
    rw [lm]; omega
  · show ((rows.map fun r => T.d (rowD r)).length : Int) < 2 ^ 62
    rw [lm]; omega
  · obtain ⟨rows', s3, s4, rfl, hp, hz, hs1, hs2, hj⟩ := hW
    obtain ⟨hj1, rfl⟩ := rangeI_get hx
    have hj2 : k + 1 + j < n := by
      have : j < (((rows.map fun r => T.d (rowD r)).length : Int) - (0 + (k : Nat) + 1)).toNat := hj1
      rw [lm] at this
      omega
    have hl' := hp.sq.1
    obtain ⟨U, hU⟩ : ∃ U, rows'[k]? = some U := ⟨_, List.getElem?_eq_getElem (by omega)⟩
    obtain ⟨V, hV⟩ : ∃ V, rows'[k + 1 + j]? = some V := ⟨_, List.getElem?_eq_getElem (by omega)⟩
    have hb3 : (j + 1) * b + 3 * j + b + 3 ≤ (n - k) * b + 3 * (n - k - 1) := by
      have e1 : (j + 1) * b + b = (j + 2) * b := by grind
      have e2 : (j + 2) * b ≤ (n - k) * b := Nat.mul_le_mul_right b (by omega)
      omega
    obtain ⟨f1, f2, f3⟩ := first_of (pl := k) (hs1 U (List.mem_of_getElem? hU)) (hs2 _ V hV (Nat.le_refl _)) (show b ≤ (j + 1) * b + 3 * j by
      have : 1 * b ≤ (j + 1) * b := Nat.mul_le_mul_right b (by omega)
      omega)
    refine ⟨fun m r => ∃ rows2 s4 U V L, r = [some (.d (matP rows0)), some (.own pl L), some (.d (.int (0 + (k : Nat)))), some (.d (.int (0 + (k : Nat) + 1 + (j : Nat)))), s4, none, none] ∧ (L = rows2.map fun r => T.d (rowD r)) ∧ Ph n k rows0 rows2 ∧ (∀ (i : Nat) (r : List Int), rows2[i]? = some r → k < i → i < k + 1 + j → r.getD k 0 = 0) ∧ rows2[k]? = some U ∧ rows2[k + 1 + j]? = some V ∧
      (∀ (i : Nat) (r : List Int), rows2[i]? = some r → i ≠ k → i ≠ k + 1 + j → SzL ((j + 1) * b + 3 * j) r) ∧ (∀ (i : Nat) (r : List Int), rows2[i]? = some r → k + 1 + j + 1 ≤ i → SzL b r) ∧ BdL (2 ^ ((j + 1) * b + 3 * j + b + 2)) U ∧ BdL (2 ^ ((j + 1) * b + 3 * j + b + 2)) V ∧ (PairInv (2 ^ ((j + 1) * b + 3 * j + b + 2)) k U V ∨ PairFirst (2 ^ ((j + 1) * b + 3 * j + b + 2)) k U V) ∧ m = (V.getD k 0).natAbs,
      ⟨_, rows', _, U, V, _, rfl, rfl, hp, hz, hU, hV, fun i r hi _ _ => hs1 r (List.mem_of_getElem? hi), fun i r hi h => hs2 i r hi (by omega), f2, f3, .inr f1, rfl⟩, fun m r hW => ?_⟩
    clear hU hV f1 f2 f3 U V
    obtain ⟨rows2, s4, U, V, L, rfl, rfl, hp2, hz2, hU, hV, g1, g2, bU, bV, pi, rfl⟩ := hW
    have lU := hp2.sq.2 U (List.mem_of_getElem? hU)
    have lV := hp2.sq.2 V (List.mem_of_getElem? hV)
    have hl2 := hp2.sq.1
    have ea : (0 + (k : Nat) + 1 + (j : Nat) : Int) = ((k + 1 + j : Nat) : Int) := by omega
    have ek : (0 + (k : Nat) : Int) = (k : Int) := by omega
    have iV := matO_at (rows := rows2) ea hV
    have iU := matO_at (rows := rows2) ek hU
    have eV := rowD_at (U := V) ek (by omega)
    have eU := rowD_at (U := U) ek (by omega)
    refine ⟨rfl, _, iV, _, eV, fun hc => ?_, fun hc => ?_⟩
    · have hy : V.getD k 0 ≠ 0 := by
        intro e
        have : (!decide (V.getD k 0 = 0)) = true := hc
        rw [e] at this
        simp at this
      have szV := (bV.sz k).log
      obtain ⟨p1, p2, p3⟩ := pair_step (by omega) bU bV hy pi
      have sm : Sz ((j + 1) * b + 3 * j + b + 2 + 1) ((U.getD k 0).fdiv (V.getD k 0)) := (bU.sz k).le fdiv_le
      refine ⟨rfl, _, iU, _, eU, rfl, _, iV, _, eV, ⟨hy, by omega⟩, rfl, _, iV, rfl, _, iU, rfl, _, iV, nd0, false, false, U, V, (U.getD k 0).fdiv (V.getD k 0), _, _, rfl, sm, fun a ha => bV.sz.mem ha, by omega, by omega, by omega, fun pa => ⟨nvs_map _ _, ?_⟩⟩
      rw [fz_own pa PyData.int (vAdd U (-((U.getD k 0).fdiv (V.getD k 0))) V)]
      refine ⟨sz 2, rfl, _, setI_at ek (by rw [lm]; omega), _, setI_at ea (by rw [List.length_set, lm]; omega), _, p3, (rows2.set k V).set (k + 1 + j) (vAdd U (-((U.getD k 0).fdiv (V.getD k 0))) V), _, V, vAdd U (-((U.getD k 0).fdiv (V.getD k 0))) V, _, rfl, ?_, hp2.step _ h4 h0 (by omega) hU hV, fun i r hi h1 h2 => ?_, ?_, ?_, fun i r hi h1 h2 => ?_, fun i r hi h1 => ?_, bV, p2, .inl p1, rfl⟩
      · rw [List.map_set, List.map_set]
        rfl
      · rcases get_set2 (by omega) hi with ⟨rfl, rfl⟩ | ⟨rfl, rfl⟩ | ⟨_, _, hi⟩
        · omega
        · omega
        · exact hz2 i r hi h1 h2
      · rw [List.getElem?_set_ne (by omega), List.getElem?_set_self (by omega)]
      · rw [List.getElem?_set_self (by rw [List.length_set]; omega)]
      · rcases get_set2 (by omega) hi with ⟨rfl, rfl⟩ | ⟨rfl, rfl⟩ | ⟨_, _, hi⟩
        · exact absurd rfl h1
        · exact absurd rfl h2
        · exact g1 i r hi h1 h2
      · rcases get_set2 (by omega) hi with ⟨rfl, rfl⟩ | ⟨rfl, rfl⟩ | ⟨_, _, hi⟩
        · omega
        · omega
        · exact g2 i r hi h1
    · have hy : V.getD k 0 = 0 := by
        have : (!decide (V.getD k 0 = 0)) = false := hc
        simpa using this
      have eB : (j + 1 + 1) * b + 3 * (j + 1) = (j + 1) * b + 3 * j + b + 2 + 1 := by grind
      refine ⟨rows2, _, _, rfl, hp2, fun i r hi h1 h2 => ?_, fun r hr => ?_, fun i r hi h1 => g2 i r hi (by omega), by omega⟩
      · by_cases e : i = k + 1 + j
        · subst e
          rw [hV] at hi
          cases hi
          exact hy
        · exact hz2 i r hi h1 (by omega)
      · rw [eB]
        obtain ⟨i, hi⟩ := List.getElem?_of_mem hr
        by_cases e1 : i = k
        · subst e1
          rw [hU] at hi; cases hi
          exact bU.sz
        · by_cases e2 : i = k + 1 + j
          · subst e2
            rw [hV] at hi; cases hi
            exact bV.sz
          · exact (g1 i r hi e1 e2).mono (by omega)
  · obtain ⟨rows', s3, s4, rfl, hp, hz, hs1, hs2, hj⟩ := hW
    rw [rangeI_len, lm, hl] at hz hs1
    have e : ((n : Int) - (0 + (k : Nat) + 1)).toNat = n - k - 1 := by omega
    rw [e] at hz hs1
    refine q rows' _ _ hp (fun i r hi h1 => hz i r hi h1 (by have := (List.getElem?_eq_some_iff.mp hi).1; have := hp.sq.1; omega)) fun r hr => ?_
    have := hs1 r hr
    rw [show n - k - 1 + 1 = n - k by omega] at this
    exact this
end L3
namespace L3
open PySem PySem.Spec PyProof.Rows L2
local macro_rules | `(tactic| wtm_at "sh") => `(tactic| conv => whnf)
/-- how great the numbers may be at the place k -/
def BB (n b : Nat) : Nat → Nat
  | 0 => b
  | k + 1 => (n - k) * BB n b k + 3 * (n - k - 1)
theorem BB_ok {n b k : Nat} (h4 : n ≤ 4) (hb : b ≤ 370) (hk : k < n) : (n - k) * BB n b k + 3 * (n - k - 1) < 9000 := by
  rcases (show (n = 1 ∧ k = 0) ∨ (n = 2 ∧ k = 0) ∨ (n = 2 ∧ k = 1) ∨ (n = 3 ∧ k = 0) ∨ (n = 3 ∧ k = 1) ∨ (n = 3 ∧ k = 2) ∨ (n = 4 ∧ k = 0) ∨ (n = 4 ∧ k = 1) ∨ (n = 4 ∧ k = 2) ∨ (n = 4 ∧ k = 3) by omega) with ⟨rfl, rfl⟩ | ⟨rfl, rfl⟩ | ⟨rfl, rfl⟩ | ⟨rfl, rfl⟩ | ⟨rfl, rfl⟩ | ⟨rfl, rfl⟩ | ⟨rfl, rfl⟩ | ⟨rfl, rfl⟩ | ⟨rfl, rfl⟩ | ⟨rfl, rfl⟩ <;> simp [BB] <;> omega
def sp_stepped : Sp3 := fun ts Q _ => ∃ rows n b, ts = [.d (matP rows)] ∧ Sq n n rows ∧ n ≤ 4 ∧ (∀ r ∈ rows, SzL b r) ∧ b ≤ 370 ∧ ∀ p rows', Steps n rows rows' → (∀ r ∈ rows', SzL 8999 r) → Q (matO p rows') ts
theorem v_stepped (ts Q E) (h : sp_stepped ts Q E) : body_stepped { nx := fun r => finOk ts r ∧ Q (.d .none) (finF ts r), rt := fun x r => finOk ts r ∧ Q x (finF ts r) } (start3 N_stepped ts) := by
  obtain ⟨rows0, n, b, rfl, h0, h4, hB, hb, k⟩ := h
  have hb2 : 1000 < sizeLine := by decide
  have lm : ∀ rows : Mat, (rows.map fun r => T.d (rowD r)).length = rows.length := fun rows => List.length_map ..
  have hl0 := h0.1
  refine lc_gen (rows0.map rowD) (by simp) (by rw [List.length_map]; omega) (fun r0 h0' i x y hx hy R S ku => ?_) fun r0 h0' pl => ?_
  · simp only [wp, puts, List.set_cons_succ, List.set_cons_zero] at h0'; subst h0'
    obtain ⟨u, hu, rfl⟩ := get_fun hx
    obtain rfl := get_map2 hy hu
    refine ⟨fun _ p => ⟨nvs_d _, ?_⟩, nofun⟩
    rw [fz_outs]
    exact ku _ rfl
  simp only [wp, puts, List.set_cons_succ, List.set_cons_zero] at h0'; subst h0'
  rw [show (rows0.map rowD).map T.d = rows0.map (fun r => T.d (rowD r)) by rw [List.map_map]; rfl]
  refine ⟨by show ((rows0.map fun r => T.d (rowD r)).length : Int) < 2 ^ 62; rw [lm]; omega, by show -(2 ^ 62) ≤ ((rows0.map fun r => T.d (rowD r)).length : Int); rw [lm]; omega, fun j r => ∃ rows' s2 s3 s4 L, r = [some (.d (matP rows0)), some (.own pl L), s2, s3, s4, none, none] ∧ (L = rows'.map fun r => T.d (rowD r)) ∧ Ph n j rows0 rows' ∧ (∀ r ∈ rows', SzL (BB n b j) r) ∧ j ≤ n, ⟨rows0, _, _, _, _, rfl, rfl, Ph.zero h0, hB, by omega⟩, fun j x r hx hW => ?_, fun r hW => ?_⟩
  · obtain ⟨rows', s2, s3, s4, L, rfl, rfl, hp, hs, hj⟩ := hW
    obtain ⟨hj1, rfl⟩ := rangeI_get hx
    have hj2 : j < n := by
      have : j < ((rows0.map fun r => T.d (rowD r)).length : Int).toNat := hj1
      rw [lm] at this
      omega
    refine v_L1_stepped h4 h0 hj2 hp hs (BB_ok h4 hb hj2) fun rows2 s3 s4 hp2 hz hs2 => ?_
    have hl2 := hp2.sq.1
    have ek : (0 + (j : Nat) : Int) = (j : Int) := by omega
    obtain ⟨U, hU⟩ : ∃ U, rows2[j]? = some U := ⟨_, List.getElem?_eq_getElem (by omega)⟩
    have lU := hp2.sq.2 U (List.mem_of_getElem? hU)
    have iU := matO_at (rows := rows2) ek hU
    have eU := rowD_at (U := U) ek (by omega)
    have fin : ∀ rows3, Ph n j rows0 rows3 → (∀ (i : Nat) (r : List Int), rows3[i]? = some r → j < i → r.getD j 0 = 0) → (∀ r, rows3[j]? = some r → 0 ≤ r.getD j 0) → Ph n (j + 1) rows0 rows3 := fun rows3 h z d => ⟨h.sq, fun i r hi c hc hci => by
      by_cases e : c = j
      · subst e; exact z i r hi (by omega)
      · exact h.lo i r hi c (by omega) hci, fun i r hi hij => by
      by_cases e : i = j
      · subst e; exact d r hi
      · exact h.dg i r hi (by omega), h.dt, h.sp, h.ps⟩
    refine ⟨rfl, _, iU, _, eU, fun hc => ?_, fun hc => ?_⟩
    · have hneg : U.getD j 0 < 0 := dT hc
      refine ⟨rfl, _, iU, lc_gen ((U.map fun a => 0 - a).map PyData.int) (by simp) (by rw [List.length_map]; omega) (fun r0 h0' i x y hx hy R S ku => ?_) fun r0 h0' pn => ⟨nvs_d _, ?_⟩⟩
      · simp only [wp, puts, List.set_cons_succ, List.set_cons_zero] at h0'; subst h0'
        obtain ⟨u, hu, rfl⟩ := get_fun hx
        rw [List.map_map] at hy
        obtain rfl := get_map2 hy hu
        exact ⟨fun _ => ku _ rfl, nofun⟩
      simp only [wp, puts, List.set_cons_succ, List.set_cons_zero] at h0'; subst h0'
      rw [fz_outs]
      have e3 : (rows2.map fun r => T.d (rowD r)).set j (T.d (rowD (U.map fun a => 0 - a))) = (rows2.set j (U.map fun a => 0 - a)).map fun r => T.d (rowD r) := by rw [List.map_set]
      refine ⟨_, setI_at ek (by rw [lm]; omega), rows2.set j (U.map fun a => 0 - a), _, _, _, _, rfl, ?_, fin _ (hp2.neg h0 hU) (fun i r hi h1 => ?_) (fun r hi => ?_), fun r hr => ?_, by omega⟩
      · rw [← e3]
      · rw [List.getElem?_set_ne (by omega)] at hi
        exact hz i r hi h1
      · rw [List.getElem?_set_self (by omega)] at hi
        cases hi
        rw [neg_getD]
        omega
      · rcases List.mem_or_eq_of_mem_set hr with hr | rfl
        · exact hs2 r hr
        · intro c
          rw [neg_getD]
          exact (hs2 U (List.mem_of_getElem? hU) c).neg
    · have hpos : ¬ U.getD j 0 < 0 := dF hc
      exact ⟨rows2, _, _, _, _, rfl, rfl, fin _ hp2 hz fun r hi => by rw [hU] at hi; cases hi; omega, hs2, by omega⟩
  · obtain ⟨rows', s2, s3, s4, L, rfl, rfl, hp, hs, hj⟩ := hW
    rw [rangeI_len, lm] at hp hs
    have e : ((rows0.length : Int)).toNat = n := by omega
    rw [e] at hp hs
    refine ⟨⟨⟩, k pl rows' hp.done fun r hr => (hs r hr).mono ?_⟩
    match n, h4 with
    | 0, _ => show b ≤ 8999; omega
    | m + 1, h4 => exact Nat.le_of_lt_succ (BB_ok h4 hb (Nat.lt_succ_self m))
end L3
namespace L3
open PySem PySem.Spec PyProof.Rows L2
local macro_rules | `(tactic| wtm_at "sh") => `(tactic| conv => whnf)
theorem prodD_snoc : ∀ (o : Nat) (l : Mat) (r : List Int), prodD o (l ++ [r]) = prodD o l * r.getD (o + l.length) 0
  | o, [], r => by show r.getD o 0 * 1 = 1 * r.getD (o + 0) 0; rw [Nat.add_zero]; omega
  | o, x :: l, r => by
    show x.getD o 0 * prodD (o + 1) (l ++ [r]) = x.getD o 0 * prodD (o + 1) l * r.getD (o + (l.length + 1)) 0
    rw [prodD_snoc (o + 1) l r, show o + 1 + l.length = o + (l.length + 1) by omega]
    grind
theorem prodD_nonneg : ∀ (o : Nat) (l : Mat), (∀ (i : Nat) (r : List Int), l[i]? = some r → 0 ≤ r.getD (o + i) 0) → 0 ≤ prodD o l
  | _, [], _ => by show (0 : Int) ≤ 1; decide
  | o, x :: l, h => by
    refine Int.mul_nonneg (h 0 x rfl) (prodD_nonneg (o + 1) l fun i r hi => ?_)
    have := h (i + 1) r (by simpa using hi)
    rw [show o + 1 + i = o + (i + 1) by omega]
    exact this
theorem Steps.prod {n : Nat} {rows0 rows : Mat} (h : Steps n rows0 rows) : prodD 0 rows = (detN n rows0).natAbs := by
  have e := det_tri n rows h.sq h.tri
  have p : 0 ≤ prodD 0 rows := prodD_nonneg 0 rows fun i r hi => by rw [Nat.zero_add]; exact h.dg i r hi
  have d := h.dt
  rw [e] at d
  omega
theorem enum_get {α : Type} {f : α → PyData} {l : List α} {i : Nat} {x : PyData} (h : (enumD (l.map f))[i]? = some x) : ∃ u, l[i]? = some u ∧ x = .tuple [.int (i : Nat), f u] := by
  unfold enumD at h
  rw [List.getElem?_zipWith] at h
  cases e : (l.map f)[i]? with
  | none => rw [e] at h; cases h1 : (List.range (l.map f).length)[i]? <;> rw [h1] at h <;> cases h
  | some y =>
    have hi := (List.getElem?_eq_some_iff.mp e).1
    rw [e, List.getElem?_range hi] at h
    obtain ⟨u, hu, rfl⟩ := get_fun e
    exact ⟨u, hu, (Option.some.inj h).symm⟩
def N_measure_of : List Str := ["rows", "found", "place", "row"]
def body_measure_of : TS3 := (xSeq (xAsg (xD (xC (.int 1))) (xGName 1))
  (xSeq (xFor (xEnum (xFz (xCall sp_stepped xNoE (xArg (xView 0) xANil)))) (xGTup 2 (xGCons (xGName 2) (xGCons (xGName 3) xGNil))) (xAugMul 1 (x2 cIx (xView 3) (xView 2))))
  (xRet (xMove 1))))
def sp_measure_of : Sp3 := fun ts Q _ => ∃ rows n b, ts = [.d (matP rows)] ∧ Sq n n rows ∧ n ≤ 4 ∧ (∀ r ∈ rows, SzL b r) ∧ b ≤ 370 ∧ Q (.d (.int (detN n rows).natAbs)) ts
theorem v_measure_of (ts Q E) (h : sp_measure_of ts Q E) : body_measure_of { nx := fun r => finOk ts r ∧ Q (.d .none) (finF ts r), rt := fun x r => finOk ts r ∧ Q x (finF ts r) } (start3 N_measure_of ts) := by
  obtain ⟨rows0, n, b, rfl, h0, h4, hB, hb, k⟩ := h
  have hb2 : 1000 < sizeLine := by decide
  refine ⟨nd0, rows0, n, b, rfl, h0, h4, hB, hb, fun p rows hs hz => ⟨nvs_map _ _, ?_⟩⟩
  rw [fz_own p rowD rows]
  have hl := hs.sq.1
  refine ⟨fun i r => ∃ c s2 s3, r = [some (.d (matP rows0)), some (.d (.int c)), s2, s3] ∧ c = prodD 0 (rows.take i) ∧ Sz (9000 * i + 1) c ∧ i ≤ rows.length, ⟨1, _, _, rfl, rfl, by unfold Sz; decide, by omega⟩, fun i x r hx hW => ?_, fun r hW => ?_⟩
  · obtain ⟨c, s2, s3, rfl, rfl, sc, hi⟩ := hW
    obtain ⟨u, hu, rfl⟩ := enum_get hx
    have hi2 := (List.getElem?_eq_some_iff.mp hu).1
    have lu := hs.sq.2 u (List.mem_of_getElem? hu)
    have su := hz u (List.mem_of_getElem? hu) i
    have e1 : prodD 0 (rows.take (i + 1)) = prodD 0 (rows.take i) * u.getD i 0 := by
      rw [take_succ hu, prodD_snoc, List.length_take, Nat.min_eq_left (by omega), Nat.zero_add]
    exact ⟨rfl, _, rowD_at (k := i) rfl (by omega), mulOk sc su (by omega), _, _, _, rfl, e1.symm, (sc.mul su).mono (by omega), by omega⟩
  · obtain ⟨c, s2, s3, rfl, rfl, sc, hi⟩ := hW
    rw [enumD_len, List.length_map, List.take_length, hs.prod]
    exact ⟨⟨⟩, k⟩
def N_is_lattice : List Str := ["rows"]
def body_is_lattice : TS3 := (xRet (xD (xAndV (xFz (xCall sp_is_square xNoE (xArg (xView 0) xANil))) (x2 kGt (xFz (xCall sp_measure_of xNoE (xArg (xView 0) xANil))) (xC (.int 0))))))
def latB (rows : Mat) : Bool := sqB rows && decide (detN rows.length rows ≠ 0)
theorem sqB_iff {rows : Mat} : sqB rows = true ↔ 0 < rows.length ∧ Sq rows.length rows.length rows := by
  unfold sqB
  rw [Bool.and_eq_true, decide_eq_true_eq, decide_eq_true_eq]
  exact ⟨fun h => ⟨h.1, rfl, h.2⟩, fun h => ⟨h.1, h.2.2⟩⟩
def sp_is_lattice : Sp3 := fun ts Q _ => ∃ rows b, ts = [.d (matP rows)] ∧ rows.length ≤ 1000 ∧ (∀ r ∈ rows, r.length ≤ 1000) ∧ (sqB rows = true → rows.length ≤ 4) ∧ (∀ r ∈ rows, SzL b r) ∧ b ≤ 370 ∧ Q (.d (.bool (latB rows))) ts
theorem v_is_lattice (ts Q E) (h : sp_is_lattice ts Q E) : body_is_lattice { nx := fun r => finOk ts r ∧ Q (.d .none) (finF ts r), rt := fun x r => finOk ts r ∧ Q x (finF ts r) } (start3 N_is_lattice ts) := by
  obtain ⟨rows, b, rfl, h1, h2, h3, hB, hb, k⟩ := h
  refine ⟨nd0, rows, rfl, h1, h2, fun hc => ?_, fun hc => ?_⟩
  · obtain ⟨h0, hq⟩ := sqB_iff.mp hc
    refine ⟨nd0, rows, rows.length, b, rfl, hq, h3 hc, hB, hb, ⟨⟩, ?_⟩
    have e : decide ((0 : Int) < ((detN rows.length rows).natAbs : Nat)) = latB rows := by
      unfold latB
      rw [hc, Bool.true_and]
      exact decide_eq_decide.mpr (by omega)
    rw [← e] at k
    exact k
  · have e : latB rows = false := by
      unfold latB
      rw [show sqB rows = false from hc]; rfl
    rw [e] at k
    exact ⟨⟨⟩, k⟩
def N_need_lattice : List Str := ["rows"]
def body_need_lattice : TS3 := (xIfS (xNot (xTest (xFz (xCall sp_is_lattice xNoE (xArg (xView 0) xANil))))) xNever xNext)
def sp_need_lattice : Sp3 := fun ts Q _ => ∃ rows b, ts = [.d (matP rows)] ∧ rows.length ≤ 4 ∧ latB rows = true ∧ (∀ r ∈ rows, SzL b r) ∧ b ≤ 370 ∧ Q (.d .none) ts
theorem v_need_lattice (ts Q E) (h : sp_need_lattice ts Q E) : body_need_lattice { nx := fun r => finOk ts r ∧ Q (.d .none) (finF ts r), rt := fun x r => finOk ts r ∧ Q x (finF ts r) } (start3 N_need_lattice ts) := by
  obtain ⟨rows, b, rfl, h1, h2, hB, hb, k⟩ := h
  have hq := sqB_iff.mp ((Bool.and_eq_true _ _ ▸ h2 : sqB rows = true ∧ _).1)
  refine ⟨nd0, rows, b, rfl, by omega, fun r hr => by have := hq.2.2 r hr; omega, fun _ => h1, hB, hb, fun hc => ?_, fun _ => ⟨⟨⟩, k⟩⟩
  have : (!latB rows) = true := hc
  rw [h2] at this
  cases this
end L3
namespace L3
open PySem PySem.Spec PyProof.Rows L2
local macro_rules | `(tactic| wtm_at "sh") => `(tactic| conv => whnf)
theorem get_set1 {rows : Mat} {i a : Nat} {x r : List Int} (h : (rows.set i x)[a]? = some r) : (a = i ∧ r = x) ∨ (a ≠ i ∧ rows[a]? = some r) := by
  by_cases e : a = i
  · subst e
    have hlt := (List.getElem?_eq_some_iff.mp h).1
    rw [List.length_set] at hlt
    rw [List.getElem?_set_self hlt] at h
    exact .inl ⟨rfl, (Option.some.inj h).symm⟩
  · rw [List.getElem?_set_ne (Ne.symm e)] at h
    exact .inr ⟨e, h⟩
/-- a row below put so many times to one above: still rows in steps -/
theorem Steps.sub {n a k : Nat} {rows0 rows : Mat} {U V : List Int} (m : Int) (h4 : n ≤ 4) (h0 : Sq n n rows0) (h : Steps n rows0 rows) (hk : a < k) (hU : rows[a]? = some U) (hV : rows[k]? = some V) : Steps n rows0 (rows.set a (vAdd U (-m) V)) := by
  have lU := h.sq.2 U (List.mem_of_getElem? hU)
  have lV := h.sq.2 V (List.mem_of_getElem? hV)
  have al := (List.getElem?_eq_some_iff.mp hU).1
  have lv : (vAdd U (-m) V).length = n := vAdd_len lU lV
  have sq' : Sq n n (rows.set a (vAdd U (-m) V)) := h.sq.set lv
  have uSp := h.sp U (List.mem_of_getElem? hU)
  have vSp := h.sp V (List.mem_of_getElem? hV)
  refine ⟨sq', fun i r hi c hc => ?_, fun i r hi => ?_, ?_, fun r hr => ?_, fun r hr => ?_⟩
  · rcases get_set1 hi with ⟨rfl, rfl⟩ | ⟨_, hi⟩
    · rw [vAdd_getD (by omega), h.tri i _ hU c hc, h.tri k _ hV c (by omega)]; simp
    · exact h.tri i r hi c hc
  · rcases get_set1 hi with ⟨rfl, rfl⟩ | ⟨_, hi⟩
    · rw [vAdd_getD (by omega), h.tri k _ hV i (by omega)]
      have := h.dg i _ hU
      simpa using this
    · exact h.dg i r hi
  · rw [det_add (-m) h4 h.sq (by omega) hU hV, h.dt]
  · rcases List.mem_or_eq_of_mem_set hr with hr | rfl
    · exact h.sp r hr
    · exact uSp.vadd h0 _ vSp
  · refine Span.trans sq' h.sq (fun s hs => ?_) (h.ps r hr)
    obtain ⟨i, hi⟩ := List.getElem?_of_mem hs
    by_cases h1 : i = a
    · subst h1
      rw [hU] at hi
      cases hi
      have mV : V ∈ rows.set i (vAdd U (-m) V) := List.mem_of_getElem? (i := k) (by rw [List.getElem?_set_ne (by omega)]; exact hV)
      have mW : vAdd U (-m) V ∈ rows.set i (vAdd U (-m) V) := List.mem_of_getElem? (i := i) (by rw [List.getElem?_set_self al])
      have z := (Span.of_mem sq' mW).vadd sq' m (.of_mem sq' mV)
      rw [vAdd_back (by omega)] at z
      exact z
    · exact .of_mem sq' (List.mem_of_getElem? (i := i) (by rw [List.getElem?_set_ne (Ne.symm h1)]; exact hi))
theorem prodD_ne : ∀ (o : Nat) (l : Mat), prodD o l ≠ 0 → ∀ (i : Nat) (r : List Int), l[i]? = some r → r.getD (o + i) 0 ≠ 0
  | _, [], _, i, r, h => by simp at h
  | o, x :: l, hn, 0, r, h => by
    have : x = r := by simpa using h
    subst this
    intro e
    exact hn (by show x.getD o 0 * _ = 0; rw [show x.getD o 0 = 0 from e, Int.zero_mul])
  | o, x :: l, hn, i + 1, r, h => by
    have h2 : l[i]? = some r := by simpa using h
    have e : o + (i + 1) = o + 1 + i := by omega
    rw [e]
    exact prodD_ne (o + 1) l (fun z => hn (by show _ * prodD (o + 1) l = 0; rw [z, Int.mul_zero])) i r h2
theorem Steps.pos {n : Nat} {rows0 rows : Mat} (h : Steps n rows0 rows) (hd : detN n rows0 ≠ 0) : ∀ (i : Nat) (r : List Int), rows[i]? = some r → 0 < r.getD i 0 := fun i r hi => by
  have := prodD_ne 0 rows (by rw [h.prod]; omega) i r hi
  rw [Nat.zero_add] at this
  have := h.dg i r hi
  omega
/-- standing rows -/
structure Stand (n : Nat) (rows0 rows : Mat) : Prop where
  st : Steps n rows0 rows
  pos : ∀ (i : Nat) (r : List Int), rows[i]? = some r → 0 < r.getD i 0
  red : ∀ (i j : Nat) (r s : List Int), rows[i]? = some r → rows[j]? = some s → i < j → 0 ≤ r.getD j 0 ∧ r.getD j 0 < s.getD j 0
def L1_standing : TS3 := (xFor (xR1 (xView 2)) (xGName 3) (xSeq (xAsg (xD (x2 kDiv (x2 cIx (x2 cIx (xView 1) (xView 3)) (xView 2)) (x2 cIx (x2 cIx (xView 1) (xView 2)) (xView 2)))) (xGName 4))
  (xAsg (xD (xFz (xCall sp_taken_off xNoE (xArg (x2 cIx (xView 1) (xView 3)) (xArg (xView 4) (xArg (x2 cIx (xView 1) (xView 2)) xANil)))))) (xGSub 1 (xView 3)))))
def L2_standing : TS3 := (xFor (xR1 (x1 cLen (xView 1))) (xGName 2) L1_standing)
def N_standing : List Str := ["rows", "left", "place", "at", "many", "row"]
def body_standing : TS3 := (xSeq (xDrop (xD (xFz (xCall sp_need_lattice xNoE (xArg (xView 0) xANil)))))
  (xSeq (xAsg (xCall sp_stepped xNoE (xArg (xView 0) xANil)) (xGName 1))
  (xSeq L2_standing
  (xRet (xD (x1 cTup (xFz (xLc (xSeqI (xFz (xMove 1))) (xGName 5) xYes (xD (x1 cTup (xView 5))) [5]))))))))
theorem v_L1_standing {D : Ends3} {pl : Addr} {rows0 rows : Mat} {n k : Nat} {s3 s4 : Option T} (h4 : n ≤ 4) (h0 : Sq n n rows0) (hk : k < n) (h : Steps n rows0 rows) (hp : ∀ (i : Nat) (r : List Int), rows[i]? = some r → 0 < r.getD i 0) (hs : ∀ r ∈ rows, SzL (9000 * (k + 1)) r) (hs2 : ∀ (i : Nat) (r : List Int), rows[i]? = some r → k ≤ i → SzL 8999 r)
    (hr : ∀ (i j : Nat) (r s : List Int), rows[i]? = some r → rows[j]? = some s → i < j → j < k → 0 ≤ r.getD j 0 ∧ r.getD j 0 < s.getD j 0)
    (q : ∀ rows' s3 s4, Steps n rows0 rows' → (∀ (i : Nat) (r : List Int), rows'[i]? = some r → 0 < r.getD i 0) → (∀ r ∈ rows', SzL (9000 * (k + 1 + 1)) r) → (∀ (i : Nat) (r : List Int), rows'[i]? = some r → k ≤ i → SzL 8999 r) →
      (∀ (i j : Nat) (r s : List Int), rows'[i]? = some r → rows'[j]? = some s → i < j → j < k + 1 → 0 ≤ r.getD j 0 ∧ r.getD j 0 < s.getD j 0) → D.nx [some (.d (matP rows0)), some (matO pl rows'), some (.d (.int (0 + (k : Nat)))), s3, s4, none]) :
    L1_standing D [some (.d (matP rows0)), some (matO pl rows), some (.d (.int (0 + (k : Nat)))), s3, s4, none] := by
  have hb2 : 1000 < sizeLine := by decide
  have lm : ∀ rows : Mat, (rows.map fun r => T.d (rowD r)).length = rows.length := fun rows => List.length_map ..
  have hl := h.sq.1
  obtain ⟨V, hV⟩ : ∃ V, rows[k]? = some V := ⟨_, List.getElem?_eq_getElem (by omega)⟩
  have ek : (0 + (k : Nat) : Int) = (k : Int) := by omega
  refine ⟨by omega, by omega, fun j r => ∃ rows' s3 s4 L, r = [some (.d (matP rows0)), some (.own pl L), some (.d (.int (0 + (k : Nat)))), s3, s4, none] ∧ (L = rows'.map fun r => T.d (rowD r)) ∧ Steps n rows0 rows' ∧ (∀ (i : Nat) (r : List Int), rows'[i]? = some r → 0 < r.getD i 0) ∧ (∀ (i : Nat) (r : List Int), rows'[i]? = some r → i < j → SzL (9000 * (k + 1 + 1)) r) ∧ (∀ (i : Nat), j ≤ i → rows'[i]? = rows[i]?) ∧
      (∀ (i j : Nat) (r s : List Int), rows'[i]? = some r → rows'[j]? = some s → i < j → j < k → 0 ≤ r.getD j 0 ∧ r.getD j 0 < s.getD j 0) ∧ (∀ (i : Nat) (r : List Int), rows'[i]? = some r → i < j → 0 ≤ r.getD k 0 ∧ r.getD k 0 < V.getD k 0) ∧ j ≤ k, ⟨rows, _, _, _, rfl, rfl, h, hp, fun i r _ h => by omega, fun i _ => rfl, hr, fun i r _ h => by omega, by omega⟩, fun j x r hx hW => ?_, fun r hW => ?_⟩
  · obtain ⟨rows', s3, s4, L, rfl, rfl, g1, g2, g3, g4, g5, g6, g7⟩ := hW
    obtain ⟨hj1, rfl⟩ := rangeI_get hx
    have hj2 : j < k := by omega
    have hl' := g1.sq.1
    obtain ⟨U, hU0⟩ : ∃ U, rows[j]? = some U := ⟨_, List.getElem?_eq_getElem (by omega)⟩
    have hU : rows'[j]? = some U := by rw [g4 j (Nat.le_refl _)]; exact hU0
    have hV' : rows'[k]? = some V := by rw [g4 k (by omega)]; exact hV
    have lU := g1.sq.2 U (List.mem_of_getElem? hU)
    have lV := g1.sq.2 V (List.mem_of_getElem? hV')
    have ej : (0 + (j : Nat) : Int) = (j : Int) := by omega
    have iV := matO_at (rows := rows') ek hV'
    have iU := matO_at (rows := rows') ej hU
    have eV := rowD_at (U := V) ek (by omega)
    have eU := rowD_at (U := U) ek (by omega)
    have zU : SzL (9000 * (k + 1)) U := hs U (List.mem_of_getElem? hU0)
    have zV : SzL 8999 V := hs2 k V hV (Nat.le_refl _)
    have pV : 0 < V.getD k 0 := hp k V hV
    have em : U.getD k 0 / V.getD k 0 = (U.getD k 0).fdiv (V.getD k 0) := (Int.fdiv_eq_ediv_of_nonneg _ (by omega)).symm
    have sm : Sz (9000 * (k + 1)) (U.getD k 0 / V.getD k 0) := (zU k).le (by rw [em]; exact fdiv_le)
    have ec : ∀ c, (vAdd U (-(U.getD k 0 / V.getD k 0)) V).getD c 0 = U.getD c 0 + -(U.getD k 0 / V.getD k 0) * V.getD c 0 := fun c => vAdd_getD (by omega) c
    have e0 : ∀ c, c < k → (vAdd U (-(U.getD k 0 / V.getD k 0)) V).getD c 0 = U.getD c 0 := fun c hc => by
      rw [ec, g1.tri k V hV' c (by omega)]; simp
    have e1 : (vAdd U (-(U.getD k 0 / V.getD k 0)) V).getD k 0 = U.getD k 0 % V.getD k 0 := by
      rw [ec]
      have := Int.mul_ediv_add_emod (U.getD k 0) (V.getD k 0)
      have := Int.mul_comm (V.getD k 0) (U.getD k 0 / V.getD k 0)
      rw [Int.neg_mul]; omega
    refine ⟨rfl, _, iU, _, eU, rfl, _, iV, _, eV, divOk pV (zV k) (by decide), rfl, _, iU, rfl, _, iV, nd0, false, false, U, V, U.getD k 0 / V.getD k 0, _, _, rfl, sm, fun a ha => zV.mem ha, by omega, by omega, by omega, fun pa => ⟨nvs_map _ _, ?_⟩⟩
    rw [fz_own pa PyData.int (vAdd U (-(U.getD k 0 / V.getD k 0)) V)]
    refine ⟨_, setI_at ej (by rw [lm]; omega), rows'.set j (vAdd U (-(U.getD k 0 / V.getD k 0)) V), _, _, _, rfl, ?_, g1.sub _ h4 h0 hj2 hU hV', fun i r hi => ?_, fun i r hi hij => ?_, fun i hi => ?_, fun i j2 r s hi hj hij hjk => ?_, fun i r hi hij => ?_, by omega⟩
    · rw [List.map_set]
    · rcases get_set1 hi with ⟨rfl, rfl⟩ | ⟨_, hi⟩
      · rw [e0 _ hj2]; exact g2 _ _ hU
      · exact g2 i r hi
    · rcases get_set1 hi with ⟨rfl, rfl⟩ | ⟨ne, hi⟩
      · intro c
        rw [ec]
        have s1 : Sz (9000 * (k + 1) + 8999) (-(U.getD k 0 / V.getD k 0) * V.getD c 0) := sm.neg.mul (zV c)
        exact ((zU c).mono (by omega)).add s1 |>.mono (by omega)
      · exact g3 i r hi (by omega)
    · rw [List.getElem?_set_ne (by omega)]
      exact g4 i (by omega)
    · rcases get_set1 hj with ⟨rfl, rfl⟩ | ⟨ne2, hj'⟩
      · rcases get_set1 hi with ⟨rfl, rfl⟩ | ⟨ne, hi'⟩
        · omega
        · rw [e0 _ hjk]; exact g5 i _ r _ hi' hU hij hjk
      · rcases get_set1 hi with ⟨rfl, rfl⟩ | ⟨ne, hi'⟩
        · rw [e0 _ hjk]; exact g5 _ j2 _ s hU hj' hij hjk
        · exact g5 i j2 r s hi' hj' hij hjk
    · rcases get_set1 hi with ⟨rfl, rfl⟩ | ⟨ne, hi⟩
      · rw [e1]; exact ⟨Int.emod_nonneg _ (by omega), Int.emod_lt_of_pos _ pV⟩
      · exact g6 i r hi (by omega)
  · obtain ⟨rows', s3, s4, L, rfl, rfl, g1, g2, g3, g4, g5, g6, g7⟩ := hW
    rw [rangeI_len] at g3 g4 g6
    have e : ((0 + (k : Nat) : Int)).toNat = k := by omega
    rw [e] at g3 g4 g6
    refine q rows' _ _ g1 g2 (fun r hr => ?_) (fun i r hi hik => hs2 i r (by rw [← g4 i hik]; exact hi) hik) fun i j2 r s hi hj hij hjk => ?_
    · obtain ⟨i, hi⟩ := List.getElem?_of_mem hr
      by_cases c : i < k
      · exact g3 i r hi c
      · exact (hs2 i r (by rw [← g4 i (by omega)]; exact hi) (by omega)).mono (by omega)
    · by_cases c : j2 = k
      · subst c
        rw [g4 j2 (Nat.le_refl _), hV] at hj
        cases hj
        exact g6 i r hi hij
      · exact g5 i j2 r s hi hj hij (by omega)
def sp_standing : Sp3 := fun ts Q _ => ∃ rows b, ts = [.d (matP rows)] ∧ rows.length ≤ 4 ∧ latB rows = true ∧ (∀ r ∈ rows, SzL b r) ∧ b ≤ 370 ∧ ∀ rows', Stand rows.length rows rows' → Q (.d (matP rows')) ts
theorem v_standing (ts Q E) (h : sp_standing ts Q E) : body_standing { nx := fun r => finOk ts r ∧ Q (.d .none) (finF ts r), rt := fun x r => finOk ts r ∧ Q x (finF ts r) } (start3 N_standing ts) := by
  obtain ⟨rows0, b, rfl, h4, hlat, hB, hb, k⟩ := h
  have hb2 : 1000 < sizeLine := by decide
  have lm : ∀ rows : Mat, (rows.map fun r => T.d (rowD r)).length = rows.length := fun rows => List.length_map ..
  have hq := sqB_iff.mp ((Bool.and_eq_true _ _ ▸ hlat : sqB rows0 = true ∧ _).1)
  have hd : detN rows0.length rows0 ≠ 0 := of_decide_eq_true ((Bool.and_eq_true _ _ ▸ hlat : sqB rows0 = true ∧ _).2)
  have h0 := hq.2
  generalize hn : rows0.length = n at h0 hd h4 k hq
  refine ⟨nd0, rows0, b, rfl, by omega, hlat, hB, hb, nd0, rows0, n, b, rfl, h0, h4, hB, hb, fun pl rows hs hz => ?_⟩
  refine ⟨by show ((rows.map fun r => T.d (rowD r)).length : Int) < 2 ^ 62; rw [lm, hs.sq.1]; omega, by show -(2 ^ 62) ≤ ((rows.map fun r => T.d (rowD r)).length : Int); rw [lm]; omega, fun j r => ∃ rows' s2 s3 s4 L, r = [some (.d (matP rows0)), some (.own pl L), s2, s3, s4, none] ∧ (L = rows'.map fun r => T.d (rowD r)) ∧ Steps n rows0 rows' ∧ (∀ (i : Nat) (r : List Int), rows'[i]? = some r → 0 < r.getD i 0) ∧ (∀ r ∈ rows', SzL (9000 * (j + 1)) r) ∧ (∀ (i : Nat) (r : List Int), rows'[i]? = some r → j ≤ i → SzL 8999 r) ∧
      (∀ (i k : Nat) (r s : List Int), rows'[i]? = some r → rows'[k]? = some s → i < k → k < j → 0 ≤ r.getD k 0 ∧ r.getD k 0 < s.getD k 0) ∧ j ≤ n, ⟨rows, _, _, _, _, rfl, rfl, hs, hs.pos hd, fun r hr => (hz r hr).mono (by omega), fun i r hi _ => hz r (List.mem_of_getElem? hi), fun _ _ _ _ _ _ _ h => by omega, by omega⟩, fun j x r hx hW => ?_, fun r hW => ?_⟩
  · obtain ⟨rows', s2, s3, s4, L, rfl, rfl, g1, g2, g3, g4, g5, g6⟩ := hW
    obtain ⟨hj1, rfl⟩ := rangeI_get hx
    have hj2 : j < n := by
      have : j < ((rows.map fun r => T.d (rowD r)).length : Int).toNat := hj1
      rw [lm, hs.sq.1] at this
      omega
    exact v_L1_standing h4 h0 hj2 g1 g2 g3 g4 g5 fun rows2 s3 s4 f1 f2 f3 f4 f5 => ⟨rows2, _, _, _, _, rfl, rfl, f1, f2, f3, fun i r hi h => f4 i r hi (by omega), f5, by omega⟩
  · obtain ⟨rows', s2, s3, s4, L, rfl, rfl, g1, g2, g3, g4, g5, g6⟩ := hW
    rw [rangeI_len, lm, hs.sq.1] at g5
    have e : (((n : Nat) : Int)).toNat = n := by omega
    rw [e] at g5
    have hl' := g1.sq.1
    have st : Stand n rows0 rows' := ⟨g1, g2, fun i j r s hi hj hij => g5 i j r s hi hj hij (by have := (List.getElem?_eq_some_iff.mp hj).1; omega)⟩
    refine ⟨nvs_map _ _, ?_⟩
    rw [fz_own pl rowD rows']
    refine lc_gen (rows'.map rowT) (by simp) (by rw [List.length_map]; omega) (fun r0 h0' i x y hx hy R S ku => ?_) fun r0 h0' pn => ⟨nvs_d _, ?_⟩
    · simp only [wp, puts, List.set_cons_succ, List.set_cons_zero] at h0'; subst h0'
      obtain ⟨u, hu, rfl⟩ := get_fun hx
      obtain rfl := get_map2 hy hu
      exact ⟨fun _ => ku _ rfl, nofun⟩
    simp only [wp, puts, List.set_cons_succ, List.set_cons_zero] at h0'; subst h0'
    rw [fz_outs]
    exact ⟨⟨⟩, k rows' st⟩
end L3
namespace L3
open PySem PySem.Spec PyProof.Rows L2
local macro_rules | `(tactic| wtm_at "sh") => `(tactic| conv => whnf)
def L1_law_number_1 : TS3 := (xFor (xR1 (x2 kMin (xView 5) (xC (.int 60)))) (xGName 7) (xAsg (xD (x2 kDiv (xView 6) (xC (.int 1000000)))) (xGName 6)))
def R2_law_number_1 : TS3 := (xSeq (xAsg (xD (x2 kMod (x2 kMul (x2 kAdd (x2 kAdd (x2 kAdd (x2 kMod (xView 4) (xC (.int 2147483629))) (xC (.int 977))) (x2 kMul (xC (.int 104729)) (xView 5))) (x2 kMul (xC (.int 15485863)) (xView 1))) (xC (.int 48271))) (xC (.int 2147483647)))) (xGName 8))
  (xSeq (xAsg (xD (x2 kMod (x2 kAdd (x2 kAdd (x2 kMul (xView 8) (xView 8)) (x2 kMul (xC (.int 7919)) (xView 5))) (x2 kMul (xC (.int 31)) (xView 1))) (xC (.int 2147483587)))) (xGName 8))
  (xRet (xD (x2 kMod (x2 kDiv (x2 kMod (x2 kMul (xView 8) (xC (.int 69621))) (xC (.int 2147483563))) (xC (.int 64))) (xC (.int 1000000)))))))
def N_law_number_1 : List Str := ["_law_script", "_law_k", "_law_cells", "_law_size", "_law_cell", "_law_turn", "_law_rest", "_law_step", "_law_seed"]
def body_law_number_1 : TS3 := (xSeq (xAsg (x2 cAdd (xFz (x1 cLst (xView 0))) (xFz (xLst (xCons (xD (xC (.int 0))) xNil)))) (xGName 2))
  (xSeq (xAsg (xD (x2 kMax (xC (.int 1)) (x1 cLen (xView 0)))) (xGName 3))
  (xSeq (xAsg (xD (x2 cIx (xView 2) (x2 kMod (xView 1) (xView 3)))) (xGName 4))
  (xSeq (xAsg (xD (x2 kDiv (xView 1) (xView 3))) (xGName 5))
  (xSeq (xAsg (xMove 4) (xGName 6))
  (xSeq L1_law_number_1
  (xSeq (xIfS (xAnd (xTest (x2 kGe (xView 4) (x2 kPow (xC (.int 10)) (xC (.int 18))))) (xAnd (xTest (x2 kLt (xView 5) (xC (.int 60)))) (xTest (x2 kGt (xView 6) (xC (.int 0)))))) (xRet (xD (x2 kMod (xView 6) (xC (.int 1000000))))) xNext)
  R2_law_number_1)))))))
theorem em_b (x m : Int) (h : 0 < m := by decide) : 0 ≤ x % m ∧ x % m < m := ⟨Int.emod_nonneg x (by omega), Int.emod_lt_of_pos x h⟩
theorem v_R_law_number_1 {D : Ends3} {s0 s2 s3 s6 s7 s8 : Option T} {k c t : Int} (k0 : 0 ≤ k) (k1 : k < 100000) (t0 : 0 ≤ t) (t1 : t < 100000) (q : ∀ x s8, 0 ≤ x → x < 1000000 → D.rt (.d (.int x)) [s0, some (.d (.int k)), s2, s3, some (.d (.int c)), some (.d (.int t)), s6, s7, s8]) :
    R2_law_number_1 D [s0, some (.d (.int k)), s2, s3, some (.d (.int c)), some (.d (.int t)), s6, s7, s8] := by
  have e1 := em_b c 2147483629
  have e2 := em_b ((c % 2147483629 + 977 + 104729 * t + 15485863 * k) * 48271) 2147483647
  refine ⟨pz, mulOkL (by decide) (by decide), mulOkL (by decide) (by decide), mulOkR (by decide) (by decide), pz, mulOkL (by omega) (by omega), mulOkL (by decide) (by decide), mulOkL (by decide) (by decide), pz, mulOkR (by decide) (by decide), pz, divOk (n := 8) pz (by unfold Sz; decide) (by decide), pz, ?_⟩
  exact q _ _ (em_b _ 1000000).1 (em_b _ 1000000).2
/-- a number below a million -/
def sp_law_number_1 : Sp3 := fun ts Q _ => ∃ a ns k, ts = [.sc a ns, .d (.int k)] ∧ ns.length ≤ 63 ∧ 0 ≤ k ∧ k < 100000 ∧ ∀ x, 0 ≤ x → x < 1000000 → Q (.d (.int x)) ts
theorem v_law_number_1 (ts Q E) (h : sp_law_number_1 ts Q E) : body_law_number_1 { nx := fun r => finOk ts r ∧ Q (.d .none) (finF ts r), rt := fun x r => finOk ts r ∧ Q x (finF ts r) } (start3 N_law_number_1 ts) := by
  obtain ⟨a, ns, k, rfl, hl, k0, k1, q⟩ := h
  refine fun p => ⟨nvs_map _ _, ?_⟩
  rw [fz_own p PyData.int ns]
  refine ⟨sz 1, fun p1 => ⟨rfl, ?_⟩⟩
  have few : ns.length + 1 ≤ sizeLine := Nat.le_trans (show ns.length + 1 ≤ 64 by omega) (by decide)
  refine ⟨by rw [List.length_map]; exact few, fun pc => ?_⟩
  have hm : (0 : Int) < max 1 (ns.length : Int) := by omega
  have hm2 : max 1 (ns.length : Int) ≤ 63 := by omega
  have b1 := em_b k (max 1 (ns.length : Int)) hm
  have eL : List.map T.d (List.map PyData.int ns) ++ List.map T.d (fzs [T.d (PyData.int 0)]) = (ns ++ [0]).map fun n => T.d (.int n) := by
    rw [List.map_append, List.map_map]; rfl
  rw [eL]
  obtain ⟨c, hc⟩ : ∃ c, getI ((ns ++ [0]).map fun n => T.d (.int n)) (k % max 1 (ns.length : Int)) = some (.d (.int c)) := by
    obtain ⟨x, hx, _, hm⟩ := getI_of (l := (ns ++ [0]).map fun n => T.d (.int n)) b1.1 (by rw [List.length_map, List.length_append, List.length_singleton]; omega)
    obtain ⟨y, _, rfl⟩ := List.mem_map.mp hm
    exact ⟨y, hx⟩
  have t0 : 0 ≤ k / max 1 (ns.length : Int) := Int.ediv_nonneg k0 (by omega)
  have t1 : k / max 1 (ns.length : Int) ≤ k := Int.ediv_le_self _ k0
  refine ⟨hm, rfl, _, hc, divOk (n := 6) hm (by unfold Sz; omega) (by decide), by omega, by omega, fun i r => ∃ c2 s7, r = [some (.sc a ns), some (.d (.int k)), some (.own pc ((ns ++ [0]).map fun n => T.d (.int n))), some (.d (.int (max 1 (ns.length : Int)))), some (.d (.int c)), some (.d (.int (k / max 1 (ns.length : Int)))), some (.d (.int c2)), s7, none], ⟨c, _, rfl⟩, fun i x r hx hW => ?_, fun r hW => ?_⟩
  · obtain ⟨c2, s7, rfl⟩ := hW
    obtain ⟨_, rfl⟩ := rangeI_get hx
    exact ⟨divOk (n := 20) pz (by unfold Sz; decide) (by decide), _, _, rfl⟩
  · obtain ⟨c2, s7, rfl⟩ := hW
    have rest := fun D q => v_R_law_number_1 (D := D) (s0 := some (.sc a ns)) (s2 := some (.own pc ((ns ++ [0]).map fun n => T.d (.int n)))) (s3 := some (.d (.int (max 1 (ns.length : Int))))) (c := c) (s6 := some (.d (.int c2))) (s7 := s7) (s8 := none) k0 k1 t0 (by omega) q
    have fin : ∀ x s8, 0 ≤ x → x < 1000000 → finOk [.sc a ns, .d (.int k)] [some (.sc a ns), some (.d (.int k)), some (.own pc ((ns ++ [0]).map fun n => T.d (.int n))), some (.d (.int (max 1 (ns.length : Int)))), some (.d (.int c)), some (.d (.int (k / max 1 (ns.length : Int)))), some (.d (.int c2)), s7, s8] ∧ Q (.d (.int x)) (finF [.sc a ns, .d (.int k)] [some (.sc a ns), some (.d (.int k)), some (.own pc ((ns ++ [0]).map fun n => T.d (.int n))), some (.d (.int (max 1 (ns.length : Int)))), some (.d (.int c)), some (.d (.int (k / max 1 (ns.length : Int)))), some (.d (.int c2)), s7, s8]) := fun x s8 h0 h1 => ⟨⟨⟩, q x h0 h1⟩
    exact ⟨⟨by decide, by decide, by decide⟩, fun _ => ⟨fun _ => ⟨fun _ => ⟨pz, fin _ _ (em_b _ 1000000).1 (em_b _ 1000000).2⟩, fun _ => rest _ fin⟩, fun _ => ⟨nofun, fun _ => rest _ fin⟩⟩, fun _ => ⟨nofun, fun _ => rest _ fin⟩⟩
def L1_law_great_1 : TS3 := (xFor (xR1 (x2 kAdd (xC (.int 1)) (x2 kMod (x2 kDiv (xView 3) (xC (.int 4))) (xView 2)))) (xGName 6) (xAsg (xD (x2 kAdd (x2 kMul (xView 5) (x2 kPow (xC (.int 10)) (xC (.int 6)))) (xFz (xCall sp_law_number_1 xNoE (xArg (xView 0) (xArg (x2 kAdd (x2 kAdd (xView 1) (xC (.int 1))) (xView 6)) xANil)))))) (xGName 5)))
def R2_law_great_1 : TS3 := (xSeq (xAsg (xD (xC (.int 0))) (xGName 5))
  (xSeq L1_law_great_1
  (xRet (xD (x2 kMul (xView 5) (xView 4))))))
def R3_law_great_1 : TS3 := (xSeq (xIfS (xTest (x2 kEqI (x2 kMod (xView 3) (xC (.int 4))) (xC (.int 1)))) (xRet (xD (x2 kMul (xFz (xCall sp_law_number_1 xNoE (xArg (xView 0) (xArg (x2 kAdd (xView 1) (xC (.int 1))) xANil)))) (xView 4)))) xNext)
  R2_law_great_1)
def N_law_great_1 : List Str := ["_law_script", "_law_k", "_law_groups", "_law_head", "_law_sign", "_law_found", "_law_turn"]
def body_law_great_1 : TS3 := (xSeq (xAsg (xCall sp_law_number_1 xNoE (xArg (xView 0) (xArg (xView 1) xANil))) (xGName 3))
  (xSeq (xAsg (xD (x2 cIx (xFz (xLst (xCons (xD (xC (.int 1))) (xCons (xD (xNeg (xC (.int 1)))) xNil)))) (x2 kMod (x2 kDiv (xView 3) (xC (.int 24))) (xC (.int 2))))) (xGName 4))
  (xSeq (xIfS (xTest (x2 kEqI (x2 kMod (xView 3) (xC (.int 4))) (xC (.int 0)))) (xRet (xD (x2 kMul (x2 kMod (x2 kDiv (xView 3) (xC (.int 48))) (xC (.int 10))) (xView 4)))) xNext)
  R3_law_great_1)))
/-- a whole number, either sign, of up to thirty-six figures -/
def sp_law_great_1 : Sp3 := fun ts Q _ => ∃ a ns k g, ts = [.sc a ns, .d (.int k), .d (.int g)] ∧ ns.length ≤ 63 ∧ 0 ≤ k ∧ k < 90000 ∧ 1 ≤ g ∧ g ≤ 6 ∧ ∀ x : Int, x.natAbs < 10 ^ (6 * g.toNat) → Q (.d (.int x)) ts
theorem pick2 {a b : PyData} {i : Int} (h0 : 0 ≤ i) (h1 : i < 2) : ∃ z, getI [a, b] i = some z ∧ (z = a ∨ z = b) := by
  have : i = 0 ∨ i = 1 := by omega
  rcases this with rfl | rfl
  · exact ⟨a, rfl, .inl rfl⟩
  · exact ⟨b, rfl, .inr rfl⟩
theorem v_law_great_1 (ts Q E) (h : sp_law_great_1 ts Q E) : body_law_great_1 { nx := fun r => finOk ts r ∧ Q (.d .none) (finF ts r), rt := fun x r => finOk ts r ∧ Q x (finF ts r) } (start3 N_law_great_1 ts) := by
  obtain ⟨a, ns, k, g, rfl, hl, k0, k1, g0, g1, q⟩ := h
  have p6 : 1000000 ≤ 10 ^ (6 * g.toNat) := Nat.pow_le_pow_right (n := 10) (by decide) (show 6 ≤ 6 * g.toNat by omega)
  refine ⟨nd0, a, ns, k, rfl, hl, k0, by omega, fun x x0 x1 => ⟨sz 2, fun p0 => ⟨rfl, divOk (n := 6) pz (by unfold Sz; decide) (by decide), pz, ?_⟩⟩⟩
  obtain ⟨z, hz, hs'⟩ := pick2 (a := .int 1) (b := .int (-1)) (em_b (x / 24) 2).1 (em_b (x / 24) 2).2
  obtain ⟨s, rfl, hs⟩ : ∃ s : Int, z = .int s ∧ (s = 1 ∨ s = -1) := by
    rcases hs' with rfl | rfl
    · exact ⟨1, rfl, .inl rfl⟩
    · exact ⟨-1, rfl, .inr rfl⟩
  have s0 : -(2 ^ 64) < s ∧ s < 2 ^ 64 := by omega
  have sx : ∀ y : Int, (y * s).natAbs = y.natAbs := fun y => by
    rcases hs with rfl | rfl
    · rw [Int.mul_one]
    · rw [Int.mul_neg, Int.mul_one, Int.natAbs_neg]
  refine ⟨_, hz, pz, fun _ => ⟨divOk (n := 6) pz (by unfold Sz; decide) (by decide), pz, mulOkR s0.1 s0.2, ⟨⟩, q _ ?_⟩, fun _ => ⟨pz, fun _ => ⟨nd0, a, ns, k + 1, rfl, hl, by omega, by omega, fun y y0 y1 => ⟨mulOkR s0.1 s0.2, ⟨⟩, q _ ?_⟩⟩, fun _ => ?_⟩⟩
  · rw [sx]
    have := em_b (x / 48) 10
    omega
  · rw [sx]; omega
  have c6 : CPow 10 6 := ⟨by decide, by decide, by decide⟩
  have b1 := em_b (x / 4) g (by omega)
  refine ⟨divOk (n := 6) pz (by unfold Sz; decide) (by decide), by show (0 : Int) < g; omega, by omega, by omega, fun i r => ∃ f s6, r = [some (.sc a ns), some (.d (.int k)), some (.d (.int g)), some (.d (.int x)), some (.d (.int s)), some (.d (.int f)), s6] ∧ 0 ≤ f ∧ f < 10 ^ (6 * i) ∧ i ≤ g.toNat, ⟨0, _, rfl, by decide, by decide, by omega⟩, fun i y r hy hW => ?_, fun r hW => ?_⟩
  · obtain ⟨f, s6, rfl, f0, f1, hi⟩ := hW
    obtain ⟨hi2, rfl⟩ := rangeI_get hy
    have hi3 : i < g.toNat := by omega
    have e6 : (10 : Int) ^ (6 * (i + 1)) = 10 ^ (6 * i) * 10 ^ 6 := by rw [Nat.mul_add, Int.pow_add]
    refine ⟨c6, mulOkR (by decide) (by decide), nd0, a, ns, k + 1 + (0 + (i : Nat)), rfl, hl, by omega, by omega, fun y y0 y1 => ⟨f * 10 ^ 6 + y, _, rfl, ?_, ?_, by omega⟩⟩
    · have : (0 : Int) ≤ f * 10 ^ 6 := Int.mul_nonneg f0 (by decide)
      omega
    · have : (f + 1) * 10 ^ 6 ≤ 10 ^ (6 * i) * 10 ^ 6 := Int.mul_le_mul_of_nonneg_right (by omega) (by decide)
      rw [e6]
      omega
  · obtain ⟨f, s6, rfl, f0, f1, hi⟩ := hW
    refine ⟨mulOkR s0.1 s0.2, ⟨⟩, q _ ?_⟩
    rw [sx]
    have h2 : (10 : Nat) ^ (6 * (rangeI 0 (1 + x / 4 % g).toNat).length) ≤ 10 ^ (6 * g.toNat) := Nat.pow_le_pow_right (by decide) (by omega)
    have h3 : ((10 ^ (6 * (rangeI 0 (1 + x / 4 % g).toNat).length) : Nat) : Int) = (10 : Int) ^ (6 * (rangeI 0 (1 + x / 4 % g).toNat).length) := by simp
    omega
end L3
namespace L3
open PySem PySem.Spec PyProof.Rows L2
local macro_rules | `(tactic| wtm_at "sh") => `(tactic| conv => whnf)
def R3_law_rows_1 : TS3 := (xAsg (xD (xFz (xLc (xZipX (x2 cIx (xView 6) (xView 16)) (x2 cIx (xView 6) (xView 17))) (xGTup 2 (xGCons (xGName 19) (xGCons (xGName 20) xGNil))) xYes (xD (x2 kAdd (xView 19) (x2 kMul (xView 18) (xView 20)))) [19, 20]))) (xGSub 6 (xView 16)))
theorem pickA {l : List PyData} {P : Int → Prop} {i : Int} (h0 : 0 ≤ i) (h1 : i < l.length) (h : ∀ z ∈ l, ∃ y, z = .int y ∧ P y) : ∃ y, getI l i = some (.int y) ∧ P y := by
  obtain ⟨z, hz, _, hm⟩ := getI_of h0 h1
  obtain ⟨y, rfl, hp⟩ := h z hm
  exact ⟨y, hz, hp⟩
theorem SzL.of {n : Nat} {U : List Int} (h : ∀ x ∈ U, Sz n x) : SzL n U := fun c => by
  by_cases hc : c < U.length
  · rw [List.getD_eq_getElem?_getD, List.getElem?_eq_getElem hc]
    exact h _ (List.getElem_mem hc)
  · rw [getD_big (by omega)]; unfold Sz; exact Nat.pow_pos (by decide)
theorem vAdd_one {x y : List Int} {b : Int} {i : Nat} {u : PyData} (hu : (zipD (x.map PyData.int) (y.map PyData.int))[i]? = some u) (h : x.length = y.length) : ∃ p q, x[i]? = some p ∧ y[i]? = some q ∧ u = .tuple [.int p, .int q] ∧ (vAdd x b y)[i]? = some (p + b * q) := by
  obtain ⟨p, q, hp, hq, rfl⟩ := zip_at hu
  exact ⟨p, q, hp, hq, rfl, by unfold vAdd; rw [List.getElem?_zipWith, hp, hq]⟩
/-- the turn of one row so many times put to another -/
theorem v_R3_law_rows_1 {D : Ends3} {p6 : Addr} {rows : Mat} {n i j : Nat} {io jo : Int} {b : Int} {z : Nat} {s0 s1 s2 s3 s4 s5 s7 s8 s9 s10 s11 s12 s13 s14 s15 : Option T} (hs : Sq n n rows) (h4 : n ≤ 4) (hi : i < n) (hj : j < n) (ei : io = i) (ej : jo = j) (hb : b.natAbs ≤ 9) (hz : ∀ r ∈ rows, ∀ x ∈ r, x.natAbs ≤ z) (hz2 : 10 * z < 2 ^ 240)
    (q : ∀ rows' : Mat, Sq n n rows' → (∀ r ∈ rows', ∀ x ∈ r, x.natAbs ≤ 10 * z) → D.nx [s0, s1, s2, s3, s4, s5, some (matO p6 rows'), s7, s8, s9, s10, s11, s12, s13, s14, s15, some (.d (.int io)), some (.d (.int jo)), some (.d (.int b)), none, none]) :
    R3_law_rows_1 D [s0, s1, s2, s3, s4, s5, some (matO p6 rows), s7, s8, s9, s10, s11, s12, s13, s14, s15, some (.d (.int io)), some (.d (.int jo)), some (.d (.int b)), none, none] := by
  have hb2 : 1000 < sizeLine := by decide
  have hl := hs.1
  obtain ⟨U, hU⟩ : ∃ U, rows[i]? = some U := ⟨_, List.getElem?_eq_getElem (by omega)⟩
  obtain ⟨V, hV⟩ : ∃ V, rows[j]? = some V := ⟨_, List.getElem?_eq_getElem (by omega)⟩
  have lU := hs.2 U (List.mem_of_getElem? hU)
  have lV := hs.2 V (List.mem_of_getElem? hV)
  have lv : (vAdd U b V).length = n := vAdd_len lU lV
  refine ⟨rfl, _, matO_at ei hU, rfl, _, matO_at ej hV, _, _, rfl, rfl, lc_gen ((vAdd U b V).map PyData.int) (by rw [zipD_len, List.length_map, List.length_map, List.length_map]; omega) (by rw [zipD_len, List.length_map, List.length_map]; omega) (fun r0 h0 c u w hu hw R S ku => ?_) fun r0 h0 pa => ⟨nvs_d _, ?_⟩⟩
  · simp only [wp, puts, List.set_cons_succ, List.set_cons_zero] at h0; subst h0
    obtain ⟨x, y, hx, hy, rfl, he⟩ := vAdd_one (b := b) hu (by omega)
    rw [List.getElem?_map, he] at hw
    cases hw
    exact ⟨rfl, fun _ => ⟨mulOkL (by omega) (by omega), ku _ rfl⟩, nofun⟩
  · simp only [wp, puts, List.set_cons_succ, List.set_cons_zero] at h0; subst h0
    rw [fz_outs]
    refine ⟨_, setI_at ei (by rw [List.length_map]; omega), ?_⟩
    have e3 : (rows.map fun r => T.d (rowD r)).set i (T.d (rowD (vAdd U b V))) = (rows.set i (vAdd U b V)).map fun r => T.d (rowD r) := by rw [List.map_set]
    show D.nx [s0, s1, s2, s3, s4, s5, some (.own p6 ((rows.map fun r => T.d (rowD r)).set i (T.d (rowD (vAdd U b V))))), s7, s8, s9, s10, s11, s12, s13, s14, s15, some (.d (.int io)), some (.d (.int jo)), some (.d (.int b)), none, none]
    rw [e3]
    refine q _ (hs.set lv) fun r hr x hx => ?_
    rcases List.mem_or_eq_of_mem_set hr with hr | rfl
    · have := hz r hr x hx; omega
    · obtain ⟨c, hc⟩ := List.getElem?_of_mem hx
      unfold vAdd at hc
      rw [List.getElem?_zipWith] at hc
      cases e1 : U[c]? with
      | none => rw [e1] at hc; cases hc
      | some u =>
        cases e2 : V[c]? with
        | none => rw [e1, e2] at hc; cases hc
        | some v =>
          rw [e1, e2] at hc
          cases hc
          have h1 := hz U (List.mem_of_getElem? hU) u (List.mem_of_getElem? e1)
          have h2 := hz V (List.mem_of_getElem? hV) v (List.mem_of_getElem? e2)
          have h3 : (b * v).natAbs ≤ 9 * z := by rw [Int.natAbs_mul]; exact Nat.mul_le_mul hb h2
          have := Int.natAbs_add_le u (b * v)
          omega
end L3
namespace L3
open PySem PySem.Spec PyProof.Rows L2
local macro_rules | `(tactic| wtm_at "sh") => `(tactic| conv => whnf)
/-! ## the law's determinant -/
theorem sumR_sz {f : Nat → Int} {X : Nat} : ∀ {m : Nat}, (∀ k, k < m → (f k).natAbs ≤ X) → (sumR m f).natAbs ≤ m * X
  | 0, _ => by show (0 : Int).natAbs ≤ _; simp
  | m + 1, h => by
    have h1 := sumR_sz (m := m) fun k hk => h k (by omega)
    have h2 := h m (by omega)
    show (sumR m f + f m).natAbs ≤ (m + 1) * X
    have := Int.natAbs_add_le (sumR m f) (f m)
    rw [Nat.add_mul]
    omega
theorem sg_abs (k : Nat) : (sg k).natAbs = 1 := by unfold sg; split <;> rfl
theorem SzL.erase {b k : Nat} {r : List Int} (h : SzL b r) : SzL b (r.eraseIdx k) := fun c => by
  rw [get_erase]
  split
  · exact h _
  · exact h _
theorem det_sz (b : Nat) : ∀ (n : Nat) (rows : Mat), n ≤ 4 → Sq n n rows → (∀ r ∈ rows, SzL b r) → (detN n rows).natAbs ≤ 2 ^ (n * (b + 2))
  | 0, rows, _, _, _ => by show (1 : Int).natAbs ≤ _; simp
  | n + 1, [], _, h, _ => by have := h.1; simp at this
  | n + 1, r :: rest, h4, h, hz => by
    obtain ⟨hr, ht⟩ := h.tail
    show (sumR (n + 1) fun k => r.getD k 0 * sg k * detN n (minor k rest)).natAbs ≤ _
    have := sumR_sz (m := n + 1) (X := 2 ^ b * 2 ^ (n * (b + 2))) (f := fun k => r.getD k 0 * sg k * detN n (minor k rest)) fun k hk => by
      have e1 := hz r (by simp) k
      have e2 := det_sz b n (minor k rest) (by omega) (ht.minor hk) fun x hx => by
        obtain ⟨y, hy, rfl⟩ := List.mem_map.mp hx
        exact (hz y (List.mem_cons_of_mem _ hy)).erase
      rw [Int.natAbs_mul, Int.natAbs_mul, sg_abs, Nat.mul_one]
      exact Nat.mul_le_mul (Nat.le_of_lt e1) e2
    refine Nat.le_trans this ?_
    have e3 : 2 ^ ((n + 1) * (b + 2)) = 4 * (2 ^ b * 2 ^ (n * (b + 2))) := by
      rw [Nat.add_mul, Nat.one_mul, Nat.pow_add, Nat.pow_add]
      grind
    rw [e3]
    exact Nat.mul_le_mul_right _ h4
theorem det_Sz {b n : Nat} {rows : Mat} (h4 : n ≤ 4) (h : Sq n n rows) (hz : ∀ r ∈ rows, SzL b r) : Sz (n * (b + 2) + 1) (detN n rows) := by
  have := det_sz b n rows h4 h hz
  unfold Sz
  rw [Nat.pow_succ]
  have : 0 < 2 ^ (n * (b + 2)) := Nat.pow_pos (by decide)
  omega
theorem erase_cut {r : List Int} {k : Nat} (h : k < r.length) : cutL (r.map PyData.int) none (some (k : Int)) ++ cutL (r.map PyData.int) (some ((k : Int) + 1)) none = (r.eraseIdx k).map PyData.int := by
  rw [cut_take (by rw [List.length_map]; omega), show ((k : Int) + 1) = ((k + 1 : Nat) : Int) from rfl, cut_drop (by rw [List.length_map]; omega), ← List.map_take, ← List.map_drop, ← List.map_append, List.eraseIdx_eq_take_drop_succ]
theorem sgn_pick (i : Nat) : getI [PyData.int 1, PyData.int (-1)] ((i : Int) % 2) = some (.int (sg i)) := by
  rcases (show i % 2 = 0 ∨ i % 2 = 1 by omega) with h | h
  · rw [show ((i : Int) % 2) = 0 by omega]; unfold sg; rw [if_pos h]; rfl
  · rw [show ((i : Int) % 2) = 1 by omega]; unfold sg; rw [if_neg (by omega)]; rfl
theorem nest_matP {rows : Mat} (h : rows.length < sizeLine) (k : ∀ r ∈ rows, r.length < sizeLine) : Nest 8 (matP rows) := ⟨by rw [List.length_map]; exact h, fun x hx => by
  obtain ⟨r, hr, rfl⟩ := List.mem_map.mp hx
  exact ⟨by rw [List.length_map]; exact k r hr, fun y hy => by obtain ⟨z, _, rfl⟩ := List.mem_map.mp hy; exact ⟨⟩⟩⟩
theorem eqvT_map_nil {α : Type} (f : α → PyData) (l : List α) : PyData.eqv (.tuple (l.map f)) (.tuple []) = decide (l = []) := by
  cases l with
  | nil => rfl
  | cons x l => simp [PyData.eqv, PyData.eqvAll]
def N_law_determinant : List Str := ["_law_rows_here", "_law_found", "_law_at", "_law_number_here", "_law_left", "_law_row"]
def body_law_determinant (sp_law_determinant : Sp3) : TS3 := (xSeq (xIfS (xTest (x2 kEq (xView 0) (xFz (xTup xNil)))) (xRet (xD (xC (.int 1)))) xNext)
  (xSeq (xAsg (xD (xC (.int 0))) (xGName 1))
  (xSeq (xFor (xEnumX (x2 cIx (xView 0) (xC (.int 0)))) (xGTup 2 (xGCons (xGName 2) (xGCons (xGName 3) xGNil))) (xIfS (xTest (x2 kNeI (xView 3) (xC (.int 0)))) (xSeq (xAsg (xD (x1 cTup (xFz (xLc (xSeqI (xFz (xSl (xView 0) (xSome (xC (.int 1))) xNo))) (xGName 5) xYes (x2 cAdd (xFz (xSl (xView 5) xNo (xSome (xView 2)))) (xFz (xSl (xView 5) (xSome (x2 kAdd (xView 2) (xC (.int 1)))) xNo))) [5])))) (xGName 4))
  (xAsg (xD (x2 kAdd (xView 1) (x2 kMul (x2 kMul (xView 3) (x2 cIx (xFz (xLst (xCons (xD (xC (.int 1))) (xCons (xD (xNeg (xC (.int 1)))) xNil)))) (x2 kMod (xView 2) (xC (.int 2))))) (xFz (xCall sp_law_determinant xNoE (xArg (xView 4) xANil)))))) (xGName 1))) xNext))
  (xRet (xMove 1)))))
def sp_law_determinant (f : Nat) : Sp3 := fun ts Q _ => ∃ rows n b, ts = [.d (matP rows)] ∧ Sq n n rows ∧ n < f ∧ n ≤ 4 ∧ (∀ r ∈ rows, SzL b r) ∧ b ≤ 20000 ∧ Q (.d (.int (detN n rows))) ts
theorem z0_law_determinant {ts : List T} {Q : T → List T → Prop} {E : Addr → List T → Prop} (h : sp_law_determinant 0 ts Q E) : False := by
  obtain ⟨_, _, _, _, _, h, _⟩ := h
  omega
theorem v_law_determinant (f) (ts Q E) (h : sp_law_determinant (f + 1) ts Q E) : body_law_determinant (sp_law_determinant f) { nx := fun r => finOk ts r ∧ Q (.d .none) (finF ts r), rt := fun x r => finOk ts r ∧ Q x (finF ts r) } (start3 N_law_determinant ts) := by
  obtain ⟨rows, n, b, rfl, hs, hf, h4, hz, hb, q⟩ := h
  have hb2 : 1000 < sizeLine := by decide
  have hl := hs.1
  refine ⟨sz 0, nest_shaped (nest_matP (by omega) fun r hr => by rw [hs.2 r hr]; omega) (by decide), rfl, fun hc => ?_, fun hc => ?_⟩
  · have e : rows = [] := of_decide_eq_true ((eqvT_map_nil rowT rows).symm.trans hc)
    subst e
    have e : n = 0 := hl.symm
    subst e
    exact ⟨⟨⟩, q⟩
  · have e : rows ≠ [] := of_decide_eq_false ((eqvT_map_nil rowT rows).symm.trans hc)
    match rows, n, hs, hl, e with
    | r :: rest, m + 1, hs, hl, _ =>
    clear e
    obtain ⟨hr, ht⟩ := hs.tail
    have hl2 := ht.1
    have ec : cutL (List.map rowT (r :: rest)) (some 1) none = rest.map rowT := by rw [cut_one (by simp)]; rfl
    refine ⟨_, rfl, _, rfl, fun i s => ∃ c s2 s3 s4, s = [some (.d (matP (r :: rest))), some (.d (.int c)), s2, s3, s4, none] ∧ c = sumR i (fun k => r.getD k 0 * sg k * detN m (minor k rest)) ∧ i ≤ m + 1, ⟨_, _, _, _, rfl, rfl, by omega⟩, fun i x s hx hW => ?_, fun s hW => ?_⟩
    · obtain ⟨c, s2, s3, s4, rfl, rfl, hi⟩ := hW
      obtain ⟨u, hu, rfl⟩ := enum_get hx
      have hi2 : i < m + 1 := by have := (List.getElem?_eq_some_iff.mp hu).1; omega
      have eu : r.getD i 0 = u := by rw [List.getD_eq_getElem?_getD, hu]; rfl
      refine ⟨rfl, fun hc => ?_, fun hc => ?_⟩
      · refine lc_gen ((minor i rest).map rowT) (by rw [show cutL (List.map rowT (r :: rest)) (some 1) none = rest.map rowT from ec, List.length_map, List.length_map]; unfold minor; rw [List.length_map]) (by rw [show cutL (List.map rowT (r :: rest)) (some 1) none = rest.map rowT from ec, List.length_map]; omega) (fun r0 h0 j x y hx hy R S ku => ?_) fun r0 h0 pn => ⟨nvs_d _, ?_⟩
        · simp only [wp, puts, List.set_cons_succ, List.set_cons_zero] at h0; subst h0
          rw [show cutL (List.map rowT (r :: rest)) (some 1) none = rest.map rowT from ec] at hx
          obtain ⟨v, hv, rfl⟩ := get_fun hx
          have lv := ht.2 v (List.mem_of_getElem? hv)
          obtain rfl := get_map2 (f := rowT) hy (show (minor i rest)[j]? = some (v.eraseIdx i) by unfold minor; rw [List.getElem?_map, hv]; rfl)
          have e := erase_cut (r := v) (k := i) (by omega)
          refine ⟨fun _ => ?_, nofun⟩
          rw [show rowT (v.eraseIdx i) = .tuple (cutL (v.map PyData.int) none (some (i : Int)) ++ cutL (v.map PyData.int) (some ((i : Int) + 1)) none) by rw [e]] at ku
          have c1 : (cutL (v.map PyData.int) none (some (i : Int))).length + (cutL (v.map PyData.int) (some ((i : Int) + 1)) none).length ≤ 1000 := by
            rw [← List.length_append, e, List.length_map, List.length_eraseIdx]
            split <;> omega
          exact ⟨Nat.le_trans c1 (by decide), ku _ rfl⟩
        · simp only [wp, puts, List.set_cons_succ, List.set_cons_zero] at h0; subst h0
          rw [fz_outs]
          have szu : Sz b u := by rw [← eu]; exact hz r (by simp) i
          have zl : ∀ x ∈ minor i rest, SzL b x := fun x hx => by
            obtain ⟨y, hy, rfl⟩ := List.mem_map.mp hx
            exact (hz y (List.mem_cons_of_mem _ hy)).erase
          have sd := det_Sz (by omega) (ht.minor (k := i) hi2) zl
          have ss : Sz 1 (sg i) := by unfold Sz; rw [sg_abs]; decide
          refine ⟨sz 2, fun _ => ⟨rfl, pz, _, sgn_pick i, mulOk szu ss (by omega), nd0, minor i rest, m, b, rfl, ht.minor hi2, by omega, by omega, zl, hb, mulOk (szu.mul ss) sd ?_, _, _, _, _, rfl, ?_, by omega⟩⟩
          · have : m * (b + 2) ≤ 3 * (20000 + 2) := Nat.mul_le_mul (by omega) (by omega)
            omega
          · show _ = sumR i _ + r.getD i 0 * sg i * _
            rw [eu]
      · have e0 : u = 0 := by simpa using hc
        refine ⟨_, _, _, _, rfl, ?_, by omega⟩
        show _ = sumR i _ + r.getD i 0 * sg i * _
        rw [eu, e0]
        simp
    · obtain ⟨c, s2, s3, s4, rfl, rfl, hi⟩ := hW
      rw [enumD_len, List.length_map, hr]
      exact ⟨⟨⟩, q⟩
/-- whether a row is one of the lattice, by determinants -/
def hasB (rows : Mat) (r : List Int) : Bool := decide (r.length = rows.length) && decide (∀ i, i < rows.length → detN rows.length rows ∣ detN rows.length (rows.set i r))
end L3
namespace L3
open PySem PySem.Spec PyProof.Rows L2
local macro_rules | `(tactic| wtm_at "sh") => `(tactic| conv => whnf)
/-- whether two lots of rows tell one lattice, by determinants -/
def sameB (one other : Mat) : Bool := latB other && decide (one.length = other.length) && decide ((detN one.length one).natAbs = (detN other.length other).natAbs) && decide (∀ r ∈ other, hasB one r = true)
theorem hasB_of {n : Nat} {rows : Mat} {r : List Int} (h4 : n ≤ 4) (hs : Sq n n rows) (h : Span n rows r) : hasB rows r = true := by
  unfold hasB
  have hl := hs.1
  rw [decide_eq_true (by rw [h.len hs, hl]), Bool.true_and, hl]
  exact decide_eq_true fun i hi => h.dvd h4 hs hi
theorem sameB_of {n : Nat} {rows rows' : Mat} (h4 : n ≤ 4) (hs : Sq n n rows) (n0 : 0 < n) (hd : detN n rows ≠ 0) (hs' : Sq n n rows') (hd' : (detN n rows').natAbs = (detN n rows).natAbs) (h : ∀ r ∈ rows', Span n rows r) : sameB rows rows' = true := by
  have hl := hs.1
  have hl' := hs'.1
  unfold sameB latB
  rw [sqB_iff.mpr ⟨by omega, by rw [hl']; exact hs'⟩, hl, hl', decide_eq_true rfl, decide_eq_true hd'.symm, decide_eq_true (show detN n rows' ≠ 0 by omega), decide_eq_true fun r hr => hasB_of h4 hs (h r hr)]
  rfl
theorem Stand.sz {n b : Nat} {rows0 rows : Mat} (h4 : n ≤ 4) (h0 : Sq n n rows0) (hz : ∀ r ∈ rows0, SzL b r) (h : Stand n rows0 rows) : ∀ r ∈ rows, SzL (n * (b + 2) + 1) r := by
  have hl := h.st.sq.1
  have hd := det_sz b n rows0 h4 h0 hz
  have hp := h.st.prod
  have pow1 : 0 < 2 ^ (n * (b + 2)) := Nat.pow_pos (by decide)
  have dle : ∀ (o : Nat) (l : Mat), (∀ (i : Nat) (r : List Int), l[i]? = some r → 0 < r.getD (o + i) 0) → 1 ≤ prodD o l ∧ ∀ (i : Nat) (r : List Int), l[i]? = some r → r.getD (o + i) 0 ≤ prodD o l := by
    intro o l
    induction l generalizing o with
    | nil => intro _; exact ⟨by show (1 : Int) ≤ 1; decide, fun i r hi => by simp at hi⟩
    | cons x l ih =>
      intro hx
      obtain ⟨i1, i2⟩ := ih (o + 1) fun i r hi => by
        have := hx (i + 1) r (by simpa using hi)
        rw [show o + 1 + i = o + (i + 1) by omega]
        exact this
      have x0 : 0 < x.getD o 0 := hx 0 x rfl
      have e1 : x.getD o 0 ≤ x.getD o 0 * prodD (o + 1) l := by
        have := Int.mul_le_mul_of_nonneg_left i1 (Int.le_of_lt x0)
        omega
      have e2 : prodD (o + 1) l ≤ x.getD o 0 * prodD (o + 1) l := by
        have := Int.mul_le_mul_of_nonneg_right (show 1 ≤ x.getD o 0 by omega) (show 0 ≤ prodD (o + 1) l by omega)
        omega
      refine ⟨by show 1 ≤ x.getD o 0 * prodD (o + 1) l; omega, fun i r hi => ?_⟩
      show _ ≤ x.getD o 0 * prodD (o + 1) l
      match i, hi with
      | 0, hi =>
        have : x = r := by simpa using hi
        subst this
        exact e1
      | i + 1, hi =>
        have := i2 i r (by simpa using hi)
        rw [show o + (i + 1) = o + 1 + i by omega]
        omega
  obtain ⟨p1, p2⟩ := dle 0 rows fun i r hi => by rw [Nat.zero_add]; exact h.pos i r hi
  intro r hr c
  obtain ⟨i, hi⟩ := List.getElem?_of_mem hr
  have li := (List.getElem?_eq_some_iff.mp hi).1
  have lr := h.st.sq.2 r hr
  unfold Sz
  rw [Nat.pow_succ]
  rcases Nat.lt_trichotomy c i with c1 | c1 | c1
  · rw [h.st.tri i r hi c (by omega)]; simp; omega
  · subst c1
    have := p2 c r hi
    rw [Nat.zero_add] at this
    have := h.pos c r hi
    omega
  · by_cases cn : c < n
    · obtain ⟨s, hs⟩ : ∃ s, rows[c]? = some s := ⟨_, List.getElem?_eq_getElem (by omega)⟩
      have r1 := h.red i c r s hi hs c1
      have := p2 c s hs
      rw [Nat.zero_add] at this
      omega
    · rw [getD_big (by omega)]; simp; omega
end L3
namespace L3
open PySem PySem.Spec PyProof.Rows L2
/-- Cramer's rule, for up to four rows -/
theorem cramer : ∀ (n : Nat) (rows : Mat) (y : List Int), n ≤ 4 → Sq n n rows → y.length = n → ∀ c, c < n → detN n rows * y.getD c 0 = sumR n fun i => detN n (rows.set i y) * (rows.getD i []).getD c 0
  | 0, _, _, _, _, _, c, h => by omega
  | 1, rows, y, _, h, hy, c, hc => by
    have hl : rows.length = 1 := h.1
    match rows, hl, y, hy with
    | [r], _, [y0], _ =>
      obtain ⟨a, rfl⟩ : ∃ a, r = [a] := by
        have := h.2 r (by simp)
        match r, this with | [a], _ => exact ⟨a, rfl⟩
      obtain rfl : c = 0 := by omega
      simp [detN, sumR, minor, sg]
      grind
  | 2, rows, y, _, h, hy, c, hc => by
    have hl : rows.length = 2 := h.1
    match rows, hl with
    | [r, s], _ =>
      obtain ⟨a, b, rfl⟩ := len2 (h.2 r (by simp))
      obtain ⟨d, e, rfl⟩ := len2 (h.2 s (by simp))
      obtain ⟨u, v, rfl⟩ := len2 hy
      rcases (show c = 0 ∨ c = 1 by omega) with rfl | rfl <;> simp [detN, sumR, minor, sg] <;> grind
  | 3, rows, y, _, h, hy, c, hc => by
    have hl : rows.length = 3 := h.1
    match rows, hl with
    | [r, s, t], _ =>
      obtain ⟨a0, a1, a2, rfl⟩ := len3 (h.2 r (by simp))
      obtain ⟨b0, b1, b2, rfl⟩ := len3 (h.2 s (by simp))
      obtain ⟨c0, c1, c2, rfl⟩ := len3 (h.2 t (by simp))
      obtain ⟨y0, y1, y2, rfl⟩ := len3 hy
      rcases (show c = 0 ∨ c = 1 ∨ c = 2 by omega) with rfl | rfl | rfl <;> simp [detN, sumR, minor, sg] <;> grind
  | 4, rows, y, _, h, hy, c, hc => by
    have hl : rows.length = 4 := h.1
    match rows, hl with
    | [r, s, t, z], _ =>
      obtain ⟨a0, a1, a2, a3, rfl⟩ := len4 (h.2 r (by simp))
      obtain ⟨b0, b1, b2, b3, rfl⟩ := len4 (h.2 s (by simp))
      obtain ⟨c0, c1, c2, c3, rfl⟩ := len4 (h.2 t (by simp))
      obtain ⟨d0, d1, d2, d3, rfl⟩ := len4 (h.2 z (by simp))
      obtain ⟨y0, y1, y2, y3, rfl⟩ := len4 hy
      rcases (show c = 0 ∨ c = 1 ∨ c = 2 ∨ c = 3 by omega) with rfl | rfl | rfl | rfl <;> simp [detN, sumR, minor, sg] <;> grind
  | n + 5, _, _, h, _, _, _, _ => by omega
def combo (co : Nat → Int) (rows : Mat) (n : Nat) : Nat → List Int
  | 0 => List.replicate n 0
  | k + 1 => vAdd (combo co rows n k) (co k) (rows.getD k [])
theorem getD_mem {rows : Mat} {k : Nat} (h : k < rows.length) : rows.getD k [] ∈ rows := by
  rw [List.getD_eq_getElem?_getD, List.getElem?_eq_getElem h]
  exact List.getElem_mem h
theorem combo_ok {m n : Nat} {co : Nat → Int} {rows : Mat} (h : Sq m n rows) : ∀ k, k ≤ m → Span n rows (combo co rows n k) ∧ ∀ c, (combo co rows n k).getD c 0 = sumR k fun i => co i * (rows.getD i []).getD c 0
  | 0, _ => ⟨.zero, fun c => by
      show (List.replicate n (0 : Int)).getD c 0 = 0
      by_cases hc : c < n
      · rw [List.getD_eq_getElem?_getD, List.getElem?_replicate, if_pos hc]; rfl
      · rw [getD_big (by rw [List.length_replicate]; omega)]⟩
  | k + 1, hk => by
    obtain ⟨h1, h2⟩ := combo_ok (co := co) h k (by omega)
    have hm := getD_mem (rows := rows) (k := k) (by have := h.1; omega)
    refine ⟨.add _ h1 hm, fun c => ?_⟩
    show (vAdd (combo co rows n k) (co k) (rows.getD k [])).getD c 0 = _ + co k * (rows.getD k []).getD c 0
    rw [vAdd_getD (by rw [h1.len h, h.2 _ hm]), h2]
theorem getD_ext {n : Nat} {x y : List Int} (hx : x.length = n) (hy : y.length = n) (h : ∀ c, c < n → x.getD c 0 = y.getD c 0) : x = y := by
  refine List.ext_getElem (by omega) fun c h1 h2 => ?_
  have := h c (by omega)
  rw [List.getD_eq_getElem?_getD, List.getD_eq_getElem?_getD, List.getElem?_eq_getElem h1, List.getElem?_eq_getElem h2] at this
  exact this
theorem Span.of_dvd {n : Nat} {rows : Mat} {y : List Int} (h4 : n ≤ 4) (h : Sq n n rows) (hd : detN n rows ≠ 0) (hy : y.length = n) (hv : ∀ i, i < n → detN n rows ∣ detN n (rows.set i y)) : Span n rows y := by
  obtain ⟨h1, h2⟩ := combo_ok (co := fun i => detN n (rows.set i y) / detN n rows) h n (Nat.le_refl _)
  have e : y = combo (fun i => detN n (rows.set i y) / detN n rows) rows n n := getD_ext hy (h1.len h) fun c hc => by
    have e1 := cramer n rows y h4 h hy c hc
    have e2 : sumR n (fun i => detN n (rows.set i y) * (rows.getD i []).getD c 0) = detN n rows * sumR n fun i => detN n (rows.set i y) / detN n rows * (rows.getD i []).getD c 0 := by
      have : ∀ m, m ≤ n → sumR m (fun i => detN n (rows.set i y) * (rows.getD i []).getD c 0) = detN n rows * sumR m fun i => detN n (rows.set i y) / detN n rows * (rows.getD i []).getD c 0 := by
        intro m
        induction m with
        | zero => intro _; show (0 : Int) = _ * 0; simp
        | succ m ih =>
          intro hm
          show sumR m _ + _ = _ * (sumR m _ + _)
          rw [ih (by omega), Int.mul_add]
          congr 1
          rw [← Int.mul_assoc, Int.mul_ediv_cancel' (hv m (by omega))]
      exact this n (Nat.le_refl _)
    rw [e2, ← h2] at e1
    exact Int.eq_of_mul_eq_mul_left hd e1
  rw [e]
  exact h1
theorem Span.of_has {n : Nat} {rows : Mat} {y : List Int} (h4 : n ≤ 4) (h : Sq n n rows) (hd : detN n rows ≠ 0) (hb : hasB rows y = true) : Span n rows y := by
  unfold hasB at hb
  rw [Bool.and_eq_true, decide_eq_true_eq, decide_eq_true_eq, h.1] at hb
  exact .of_dvd h4 h hd hb.1 hb.2
theorem prodD_set : ∀ (o : Nat) (l : Mat) (i : Nat) (x r : List Int), l[i]? = some r → prodD o (l.set i x) * r.getD (o + i) 0 = prodD o l * x.getD (o + i) 0
  | _, [], _, _, _, h => by simp at h
  | o, s :: l, 0, x, r, h => by
    have : s = r := by simpa using h
    subst this
    show x.getD o 0 * prodD (o + 1) l * s.getD (o + 0) 0 = s.getD o 0 * prodD (o + 1) l * x.getD (o + 0) 0
    rw [Nat.add_zero]; grind
  | o, s :: l, i + 1, x, r, h => by
    have h2 : l[i]? = some r := by simpa using h
    have := prodD_set (o + 1) l i x r h2
    show s.getD o 0 * prodD (o + 1) (l.set i x) * r.getD (o + (i + 1)) 0 = s.getD o 0 * prodD (o + 1) l * x.getD (o + (i + 1)) 0
    rw [show o + (i + 1) = o + 1 + i by omega, Int.mul_assoc, this, Int.mul_assoc]
/-- the first number that is not 0 is a multiple of the diagonal's -/
theorem tri_div {n j : Nat} {S : Mat} {x r : List Int} (h4 : n ≤ 4) (h : Sq n n S) (ht : Tri 0 S) (hd : detN n S ≠ 0) (sx : Span n S x) (hj : S[j]? = some r) (hx : ∀ c, c < j → x.getD c 0 = 0) : r.getD j 0 ∣ x.getD j 0 := by
  have hjl := (List.getElem?_eq_some_iff.mp hj).1
  have hl := h.1
  have d1 := sx.dvd h4 h (i := j) (by omega)
  have ht2 : Tri 0 (S.set j x) := fun i s hi c hc => by
    rcases get_set1 hi with ⟨rfl, rfl⟩ | ⟨_, hi⟩
    · exact hx c (by omega)
    · exact ht i s hi c hc
  have e := prodD_set 0 S j x r hj
  rw [Nat.zero_add] at e
  rw [det_tri n _ (h.set (sx.len h)) ht2] at d1
  rw [det_tri n S h ht] at d1 hd
  obtain ⟨k, hk⟩ := d1
  rw [hk, Int.mul_assoc] at e
  have := Int.eq_of_mul_eq_mul_left hd e
  exact ⟨k, by rw [← this, Int.mul_comm]⟩
theorem prodD_le : ∀ (o : Nat) (S T : Mat), S.length = T.length → (∀ (i : Nat) (r s : List Int), S[i]? = some r → T[i]? = some s → 0 < r.getD (o + i) 0 ∧ r.getD (o + i) 0 ≤ s.getD (o + i) 0) →
    0 < prodD o S ∧ prodD o S ≤ prodD o T ∧ (prodD o S = prodD o T → ∀ (i : Nat) (r s : List Int), S[i]? = some r → T[i]? = some s → r.getD (o + i) 0 = s.getD (o + i) 0)
  | _, [], [], _, _ => ⟨by show (0 : Int) < 1; decide, Int.le_refl _, fun _ i r s h _ => by simp at h⟩
  | o, a :: S, b :: T, hl, h => by
    obtain ⟨i1, i2, i3⟩ := prodD_le (o + 1) S T (by simpa using hl) fun i r s hr hs => by
      have := h (i + 1) r s (by simpa using hr) (by simpa using hs)
      rw [show o + 1 + i = o + (i + 1) by omega]
      exact this
    obtain ⟨a0, ab⟩ := h 0 a b rfl rfl
    rw [Nat.add_zero] at a0 ab
    have m1 : a.getD o 0 * prodD (o + 1) S ≤ b.getD o 0 * prodD (o + 1) S := Int.mul_le_mul_of_nonneg_right ab (by omega)
    have m2 : b.getD o 0 * prodD (o + 1) S ≤ b.getD o 0 * prodD (o + 1) T := Int.mul_le_mul_of_nonneg_left i2 (by omega)
    refine ⟨Int.mul_pos a0 i1, Int.le_trans m1 m2, fun e => ?_⟩
    have e' : a.getD o 0 * prodD (o + 1) S = b.getD o 0 * prodD (o + 1) T := e
    have ea : a.getD o 0 = b.getD o 0 := Int.eq_of_mul_eq_mul_right (show prodD (o + 1) S ≠ 0 by omega) (by omega)
    have ep : prodD (o + 1) S = prodD (o + 1) T := Int.eq_of_mul_eq_mul_left (show b.getD o 0 ≠ 0 by omega) (by omega)
    intro i r s hr hs
    match i, hr, hs with
    | 0, hr, hs =>
      obtain rfl : a = r := by simpa using hr
      obtain rfl : b = s := by simpa using hs
      exact ea
    | i + 1, hr, hs =>
      have := i3 ep i r s (by simpa using hr) (by simpa using hs)
      rw [show o + (i + 1) = o + 1 + i by omega]
      exact this
/-- standing rows of one lattice are the same -/
theorem stand_eq {n : Nat} {rows0 rows1 S T : Mat} (h4 : n ≤ 4) (h0 : Sq n n rows0) (h1 : Sq n n rows1) (hd : detN n rows0 ≠ 0) (hde : (detN n rows1).natAbs = (detN n rows0).natAbs) (hS : Stand n rows0 S) (hT : Stand n rows1 T) (hsub : ∀ r ∈ rows1, Span n rows0 r) : T = S := by
  have lS := hS.st.sq.1
  have lT := hT.st.sq.1
  have dS : detN n S ≠ 0 := by have := hS.st.dt; omega
  have inS : ∀ r ∈ T, Span n S r := fun r hr => Span.trans hS.st.sq h0 hS.st.ps (Span.trans h0 h1 hsub (hT.st.sp r hr))
  have dv : ∀ (i : Nat) (r s : List Int), S[i]? = some r → T[i]? = some s → r.getD i 0 ∣ s.getD i 0 := fun i r s hr hs => tri_div h4 hS.st.sq hS.st.tri dS (inS s (List.mem_of_getElem? hs)) hr fun c hc => hT.st.tri i s hs c (by omega)
  obtain ⟨_, _, eq⟩ := prodD_le 0 S T (by omega) fun i r s hr hs => by
    rw [Nat.zero_add]
    exact ⟨hS.pos i r hr, Int.le_of_dvd (hT.pos i s hs) (dv i r s hr hs)⟩
  have eq2 := eq (by rw [hS.st.prod, hT.st.prod, hde])
  refine List.ext_getElem (by omega) fun i g1 g2 => ?_
  have hr : S[i]? = some S[i] := List.getElem?_eq_getElem g2
  have hs : T[i]? = some T[i] := List.getElem?_eq_getElem g1
  have lr := hS.st.sq.2 _ (List.mem_of_getElem? hr)
  have ls := hT.st.sq.2 _ (List.mem_of_getElem? hs)
  have zsp : Span n S (vAdd T[i] (-1) S[i]) := (inS _ (List.mem_of_getElem? hs)).vadd hS.st.sq _ (.of_mem hS.st.sq (List.mem_of_getElem? hr))
  have zc : ∀ c, (vAdd T[i] (-1) S[i]).getD c 0 = T[i].getD c 0 - S[i].getD c 0 := fun c => by rw [vAdd_getD (by omega)]; omega
  have z0 : ∀ m c, c < m → c < n → (vAdd T[i] (-1) S[i]).getD c 0 = 0 := by
    intro m
    induction m with
    | zero => intro c hc; omega
    | succ m ih =>
      intro c hc hcn
      by_cases hcm : c < m
      · exact ih c hcm hcn
      · obtain rfl : c = m := by omega
        obtain ⟨r, hr2⟩ : ∃ r, S[c]? = some r := ⟨_, List.getElem?_eq_getElem (by omega)⟩
        obtain ⟨s, hs2⟩ : ∃ s, T[c]? = some s := ⟨_, List.getElem?_eq_getElem (by omega)⟩
        have dd := tri_div h4 hS.st.sq hS.st.tri dS zsp hr2 fun c' hc' => ih c' hc' (by omega)
        have pr := hS.pos c r hr2
        have er := eq2 c r s hr2 hs2
        rw [Nat.zero_add] at er
        rcases Nat.lt_trichotomy c i with q | q | q
        · rw [zc, hT.st.tri i _ hs c (by omega), hS.st.tri i _ hr c (by omega)]; rfl
        · subst q
          rw [hr] at hr2; rw [hs] at hs2
          cases hr2; cases hs2
          rw [zc]; omega
        · have b1 := hS.red i c _ r hr hr2 q
          have b2 := hT.red i c _ s hs hs2 q
          rw [zc] at dd ⊢
          rcases Int.lt_trichotomy (T[i].getD c 0 - S[i].getD c 0) 0 with w | w | w
          · have := Int.le_of_dvd (show 0 < -(T[i].getD c 0 - S[i].getD c 0) by omega) (Int.dvd_neg.mpr dd)
            omega
          · exact w
          · have := Int.le_of_dvd w dd
            omega
  exact getD_ext ls lr fun c hc => by have := z0 (c + 1) c (by omega) hc; rw [zc] at this; omega
theorem lat_sq {rows : Mat} (h : latB rows = true) : 0 < rows.length ∧ Sq rows.length rows.length rows ∧ detN rows.length rows ≠ 0 := by
  unfold latB at h
  rw [Bool.and_eq_true, decide_eq_true_eq] at h
  have := sqB_iff.mp h.1
  exact ⟨this.1, this.2, h.2⟩
theorem same_iff {one other S T : Mat} (h4 : one.length ≤ 4) (k4 : other.length ≤ 4) (l1 : latB one = true) (l2 : latB other = true) (hS : Stand one.length one S) (hT : Stand other.length other T) : sameB one other = decide (S = T) := by
  obtain ⟨p1, q1, d1⟩ := lat_sq l1
  obtain ⟨p2, q2, d2⟩ := lat_sq l2
  cases e : sameB one other with
  | true =>
    unfold sameB at e
    simp only [Bool.and_eq_true, decide_eq_true_eq] at e
    obtain ⟨⟨⟨_, hl⟩, hde⟩, hh⟩ := e
    rw [← hl] at q2 hT hde d2
    refine (decide_eq_true ?_).symm
    exact (stand_eq h4 q1 q2 d1 hde.symm hS hT fun r hr => Span.of_has h4 q1 d1 (hh r hr)).symm
  | false =>
    refine (decide_eq_false fun hST => ?_).symm
    subst hST
    have hl : one.length = other.length := by have := hS.st.sq.1; have := hT.st.sq.1; omega
    rw [← hl] at q2 hT d2
    have dd : (detN one.length other).natAbs = (detN one.length one).natAbs := by rw [← hT.st.dt, hS.st.dt]
    have : sameB one other = true := sameB_of h4 q1 p1 d1 q2 dd fun r hr => Span.trans q1 hS.st.sq hS.st.sp (hT.st.ps r hr)
    rw [this] at e
    cases e
theorem eqvAll_int : ∀ (a b : List Int), PyData.eqvAll (a.map PyData.int) (b.map PyData.int) = decide (a = b)
  | [], [] => rfl
  | [], _ :: _ => rfl
  | _ :: _, [] => rfl
  | x :: a, y :: b => by
    show (PyData.eqv (.int x) (.int y) && PyData.eqvAll (a.map PyData.int) (b.map PyData.int)) = _
    rw [eqvAll_int a b, show PyData.eqv (.int x) (.int y) = decide (x = y) from rfl, ← Bool.decide_and]
    exact decide_eq_decide.mpr (by simp)
theorem eqvAll_row : ∀ (a b : Mat), PyData.eqvAll (a.map rowT) (b.map rowT) = decide (a = b)
  | [], [] => rfl
  | [], _ :: _ => rfl
  | _ :: _, [] => rfl
  | x :: a, y :: b => by
    show (PyData.eqvAll (x.map PyData.int) (y.map PyData.int) && PyData.eqvAll (a.map rowT) (b.map rowT)) = _
    rw [eqvAll_row a b, eqvAll_int x y, ← Bool.decide_and]
    exact decide_eq_decide.mpr (by simp)
theorem eqv_matP (a b : Mat) : PyData.eqv (matP a) (matP b) = decide (a = b) := eqvAll_row a b
end L3
namespace L3
open PySem PySem.Spec PyProof.Rows L2
local macro_rules | `(tactic| wtm_at "sh") => `(tactic| conv => whnf)
theorem zeros_getD (n c : Nat) : (List.replicate n (0 : Int)).getD c 0 = 0 := by
  by_cases hc : c < n
  · rw [List.getD_eq_getElem?_getD, List.getElem?_replicate, if_pos hc]; rfl
  · rw [getD_big (by rw [List.length_replicate]; omega)]
def N_same_lattice : List Str := ["one", "other"]
def body_same_lattice : TS3 := (xSeq (xDrop (xCall sp_need_lattice xNoE (xArg (xView 0) xANil)))
  (xRet (xD (xAndV (xFz (xCall sp_is_lattice xNoE (xArg (xView 1) xANil))) (x2 kEq (xFz (xCall sp_standing xNoE (xArg (xView 0) xANil))) (xFz (xCall sp_standing xNoE (xArg (xView 1) xANil))))))))
def sp_same_lattice : Sp3 := fun ts Q _ => ∃ one other b, ts = [.d (matP one), .d (matP other)] ∧ one.length ≤ 4 ∧ latB one = true ∧ (∀ r ∈ one, SzL b r) ∧ other.length ≤ 1000 ∧ (∀ r ∈ other, r.length ≤ 1000) ∧ (sqB other = true → other.length ≤ 4) ∧ (∀ r ∈ other, SzL b r) ∧ b ≤ 370 ∧ Q (.d (.bool (sameB one other))) ts
theorem v_same_lattice (ts Q E) (h : sp_same_lattice ts Q E) : body_same_lattice { nx := fun r => finOk ts r ∧ Q (.d .none) (finF ts r), rt := fun x r => finOk ts r ∧ Q x (finF ts r) } (start3 N_same_lattice ts) := by
  obtain ⟨one, other, b, rfl, h4, l1, hz, k1, k2, k3, kz, hb, q⟩ := h
  have hb2 : 1000 < sizeLine := by decide
  refine ⟨nd0, one, b, rfl, h4, l1, hz, hb, nd0, other, b, rfl, k1, k2, k3, kz, hb, fun hc => ?_, fun hc => ?_⟩
  · have l2 : latB other = true := hc
    have k4 : other.length ≤ 4 := k3 ((Bool.and_eq_true _ _ ▸ l2 : sqB other = true ∧ _).1)
    refine ⟨nd0, one, b, rfl, h4, l1, hz, hb, fun S hS => ⟨nd0, other, b, rfl, k4, l2, kz, hb, fun T hT => ?_⟩⟩
    have s1 := hS.st.sq.1
    have s2 := hT.st.sq.1
    refine ⟨nest_shaped (nest_matP (by omega) fun r hr => by rw [hS.st.sq.2 r hr]; omega) (by decide), nest_shaped (nest_matP (by omega) fun r hr => by rw [hT.st.sq.2 r hr]; omega) (by decide), ⟨⟩, ?_⟩
    show Q (.d (.bool (PyData.eqv (matP S) (matP T)))) _
    rw [eqv_matP, ← same_iff h4 k4 l1 l2 hS hT]
    exact q
  · have e : sameB one other = false := by
      unfold sameB
      rw [show latB other = false from hc]; rfl
    rw [e] at q
    exact ⟨⟨⟩, q⟩
def N_has_row : List Str := ["rows", "row", "left", "place", "own"]
def body_has_row : TS3 := (xSeq (xDrop (xCall sp_need_lattice xNoE (xArg (xView 0) xANil)))
  (xSeq (xIfS (xTest (x2 kNeI (x1 cLen (xView 1)) (x1 cLen (xView 0)))) (xRet (xD (xC (.bool false)))) xNext)
  (xSeq (xAsg (x1 cLst (xView 1)) (xGName 2))
  (xFzS 2 (xSeq (xFor (xEnumX (xFz (xCall sp_standing xNoE (xArg (xView 0) xANil)))) (xGTup 2 (xGCons (xGName 3) (xGCons (xGName 4) xGNil))) (xSeq (xAsg (xCall sp_taken_off xNoE (xArg (xView 2) (xArg (x2 kDiv (x2 cIx (xView 2) (xView 3)) (x2 cIx (xView 4) (xView 3))) (xArg (xView 4) xANil)))) (xGName 2))
  (xFzS 2 (xIfS (xTest (x2 kNeI (x2 cIx (xView 2) (xView 3)) (xC (.int 0)))) (xRet (xD (xC (.bool false)))) xNext))))
  (xRet (xD (xC (.bool true)))))))))
def sp_has_row : Sp3 := fun ts Q _ => ∃ rows row b k, ts = [.d (matP rows), .d (rowT row)] ∧ rows.length ≤ 4 ∧ latB rows = true ∧ (∀ r ∈ rows, SzL b r) ∧ b ≤ 370 ∧ row.length ≤ 1000 ∧ SzL k row ∧ k ≤ 10000 ∧ Q (.d (.bool (hasB rows row))) ts
theorem v_has_row (ts Q E) (h : sp_has_row ts Q E) : body_has_row { nx := fun r => finOk ts r ∧ Q (.d .none) (finF ts r), rt := fun x r => finOk ts r ∧ Q x (finF ts r) } (start3 N_has_row ts) := by
  obtain ⟨rows, row, b, kk, rfl, h4, hlat, hz, hb, hr, hkz, hk, q⟩ := h
  have hb2 : 1000 < sizeLine := by decide
  obtain ⟨n0, hs, hd⟩ := lat_sq hlat
  have lm : (rows.map rowT).length = rows.length := List.length_map ..
  have lr : (row.map PyData.int).length = row.length := List.length_map ..
  refine ⟨nd0, rows, b, rfl, h4, hlat, hz, hb, fun hc => ?_, fun hc => ?_⟩
  · have hne : ¬ row.length = rows.length := fun e => by
      have : (!decide (((row.map PyData.int).length : Int) = ((rows.map rowT).length : Int))) = true := hc
      rw [lm, lr, e] at this
      simp at this
    have e : hasB rows row = false := by unfold hasB; rw [decide_eq_false hne, Bool.false_and]
    rw [e] at q
    exact ⟨⟨⟩, q⟩
  · have he : row.length = rows.length := by
      have : (!decide (((row.map PyData.int).length : Int) = ((rows.map rowT).length : Int))) = false := hc
      rw [lm, lr] at this
      have : (row.length : Int) = (rows.length : Int) := by simpa using this
      omega
    generalize hn : rows.length = n at hs hd n0 h4 he
    refine fun p => ⟨nvs_map _ _, ?_⟩
    rw [fz_outs]
    refine ⟨nd0, rows, b, rfl, by omega, hlat, hz, hb, fun S hS => ?_⟩
    rw [hn] at hS
    have hsz := hS.sz h4 hs hz
    have big : n * (b + 2) + 1 ≤ 1500 := by
      have : n * (b + 2) ≤ 4 * 372 := Nat.mul_le_mul h4 (by omega)
      omega
    have lS := hS.st.sq.1
    have dS : detN n S ≠ 0 := by have := hS.st.dt; omega
    refine ⟨_, rfl, fun i r => ∃ L s3 s4, r = [some (.d (matP rows)), some (.d (rowT row)), some (.d (rowD L)), s3, s4] ∧ L.length = n ∧ Span n S (vAdd row (-1) L) ∧ (∀ c, c < i → L.getD c 0 = 0) ∧ SzL (kk + i * 1501) L ∧ i ≤ n, ⟨row, _, _, rfl, he, ?_, fun c h => by omega, hkz.mono (by omega), by omega⟩, fun i x r hx hW => ?_, fun r hW => ?_⟩
    · have e : vAdd row (-1) row = List.replicate n 0 := getD_ext (vAdd_len he he) (by simp) fun c hc => by
        rw [vAdd_getD rfl, zeros_getD]
        omega
      rw [e]
      exact .zero
    · obtain ⟨L, s3, s4, rfl, lL, sL, zL, szL, hi⟩ := hW
      obtain ⟨U, hU, rfl⟩ := enum_get hx
      have hi2 : i < n := by have := (List.getElem?_eq_some_iff.mp hU).1; omega
      have lU := hS.st.sq.2 U (List.mem_of_getElem? hU)
      have pU := hS.pos i U hU
      have zU : SzL 1500 U := (hsz U (List.mem_of_getElem? hU)).mono big
      have sm : Sz (kk + i * 1501) (L.getD i 0 / U.getD i 0) := (szL i).le (by rw [← Int.fdiv_eq_ediv_of_nonneg _ (by omega)]; exact fdiv_le)
      have ib : i * 1501 ≤ 4 * 1501 := Nat.mul_le_mul (by omega) (Nat.le_refl _)
      have ec : ∀ c, (vAdd L (-(L.getD i 0 / U.getD i 0)) U).getD c 0 = L.getD c 0 + -(L.getD i 0 / U.getD i 0) * U.getD c 0 := fun c => vAdd_getD (by omega) c
      have e0 : ∀ c, c < i → (vAdd L (-(L.getD i 0 / U.getD i 0)) U).getD c 0 = 0 := fun c hc => by
        rw [ec, hS.st.tri i U hU c (by omega), zL c hc]; simp
      have e1 : (vAdd L (-(L.getD i 0 / U.getD i 0)) U).getD i 0 = L.getD i 0 % U.getD i 0 := by
        rw [ec]
        have := Int.mul_ediv_add_emod (L.getD i 0) (U.getD i 0)
        have := Int.mul_comm (U.getD i 0) (L.getD i 0 / U.getD i 0)
        rw [Int.neg_mul]; omega
      have ll : (vAdd L (-(L.getD i 0 / U.getD i 0)) U).length = n := vAdd_len lL lU
      have sp2 : Span n S (vAdd row (-1) (vAdd L (-(L.getD i 0 / U.getD i 0)) U)) := by
        have e : vAdd row (-1) (vAdd L (-(L.getD i 0 / U.getD i 0)) U) = vAdd (vAdd row (-1) L) (L.getD i 0 / U.getD i 0) U := by
          rw [vAdd_assoc he lL lU]
          congr 1
          omega
        rw [e]
        exact .add _ sL (List.mem_of_getElem? hU)
      refine ⟨rfl, _, rowD_at rfl (by omega), _, rowD_at rfl (by omega), divOk pU (zU i) (by decide), nd0, false, true, L, U, L.getD i 0 / U.getD i 0, _, _, rfl, sm, fun a ha => zU.mem ha, by omega, by omega, by omega, fun pa => ⟨nvs_map _ _, ?_⟩⟩
      rw [fz_own pa PyData.int (vAdd L (-(L.getD i 0 / U.getD i 0)) U)]
      refine ⟨_, rowD_at rfl (by omega), fun hc => ?_, fun hc => ?_⟩
      · have hne : (vAdd L (-(L.getD i 0 / U.getD i 0)) U).getD i 0 ≠ 0 := by
          have : (!decide ((vAdd L (-(L.getD i 0 / U.getD i 0)) U).getD i 0 = 0)) = true := hc
          intro e
          rw [e] at this
          simp at this
        have e : hasB rows row = false := by
          cases hh : hasB rows row with
          | false => rfl
          | true =>
            exfalso
            have s1 : Span n S row := Span.trans hS.st.sq hs hS.st.ps (Span.of_has h4 hs hd hh)
            have s2 : Span n S (vAdd L (-(L.getD i 0 / U.getD i 0)) U) := by
              have s3 := s1.vadd hS.st.sq (-1) sp2
              have e : vAdd row (-1) (vAdd row (-1) (vAdd L (-(L.getD i 0 / U.getD i 0)) U)) = vAdd L (-(L.getD i 0 / U.getD i 0)) U := getD_ext (vAdd_len he (vAdd_len he ll)) ll fun c hc => by
                rw [vAdd_getD (by rw [vAdd_len he ll]; exact he), vAdd_getD (by omega)]
                omega
              rw [e] at s3
              exact s3
            have dd := tri_div h4 hS.st.sq hS.st.tri dS s2 hU e0
            rw [e1] at dd hne
            have b1 := Int.emod_nonneg (L.getD i 0) (show U.getD i 0 ≠ 0 by omega)
            have b2 := Int.emod_lt_of_pos (L.getD i 0) pU
            have := Int.le_of_dvd (by omega) dd
            omega
        rw [e] at q
        exact ⟨⟨⟩, q⟩
      · have h0 : (vAdd L (-(L.getD i 0 / U.getD i 0)) U).getD i 0 = 0 := by
          have : (!decide ((vAdd L (-(L.getD i 0 / U.getD i 0)) U).getD i 0 = 0)) = false := hc
          simpa using this
        refine ⟨_, _, _, rfl, ll, sp2, fun c hc => ?_, fun c => ?_, by omega⟩
        · by_cases e : c = i
          · subst e; exact h0
          · exact e0 c (by omega)
        · rw [ec]
          have s1 : Sz (kk + i * 1501 + 1500) (-(L.getD i 0 / U.getD i 0) * U.getD c 0) := sm.neg.mul (zU c)
          exact (((szL c).mono (by omega)).add s1).mono (by rw [Nat.add_mul]; omega)
    · obtain ⟨L, s3, s4, rfl, lL, sL, zL, szL, hi⟩ := hW
      rw [enumD_len, List.length_map, lS] at zL
      have e : vAdd row (-1) L = row := getD_ext (vAdd_len he lL) he fun c hc => by
        rw [vAdd_getD (by omega), zL c hc]; simp
      rw [e] at sL
      have : hasB rows row = true := hasB_of h4 hs (Span.trans hs hS.st.sq hS.st.sp sL)
      rw [this] at q
      exact ⟨⟨⟩, q⟩
end L3
namespace L3
open PySem PySem.Spec PyProof.Rows L2
local macro_rules | `(tactic| wtm_at "sh") => `(tactic| conv => whnf)
/-- so wide at most, and of such numbers -/
def RowOk (r : List Int) : Prop := r.length ≤ 5 ∧ SzL 1000 r
theorem RowOk.of {n b : Nat} {r : List Int} (h : r.length = n) (hn : n ≤ 4) (hz : SzL b r) (hb : b ≤ 1000) : RowOk r := ⟨by omega, hz.mono hb⟩
theorem SzL.set {b i : Nat} {r : List Int} {x : Int} (h : SzL b r) (hx : Sz b x) : SzL b (r.set i x) := SzL.of fun y hy => by
  rcases List.mem_or_eq_of_mem_set hy with h1 | rfl
  · exact h.mem h1
  · exact hx
end L3
namespace L3
open PySem PySem.Spec PyProof.Rows L2
local macro_rules | `(tactic| wtm_at "sh") => `(tactic| conv => whnf)
def MatOk (M : Mat) : Prop := M.length ≤ 4 ∧ ∀ r ∈ M, RowOk r
end L3
namespace L3
open PySem PySem.Spec PyProof.Rows L2
/-! ## products of rows, and what they span -/
def dot : List Int → List Int → Int
  | a :: x, b :: y => a * b + dot x y
  | _, _ => 0
theorem dot_comm : ∀ (x y : List Int), dot x y = dot y x
  | [], [] => rfl
  | [], _ :: _ => rfl
  | _ :: _, [] => rfl
  | a :: x, b :: y => by
    show a * b + dot x y = b * a + dot y x
    rw [dot_comm x y, Int.mul_comm]
theorem dot_vAdd : ∀ (z x y : List Int) (m : Int), x.length = y.length → dot z (vAdd x m y) = dot z x + m * dot z y
  | [], x, y, m, _ => by
    have e : ∀ l, dot [] l = 0 := fun l => by cases l <;> rfl
    rw [e, e, e]; simp
  | c :: z, [], [], m, _ => by show (0 : Int) = 0 + m * 0; simp
  | c :: z, a :: x, b :: y, m, h => by
    show c * (a + m * b) + dot z (vAdd x m y) = c * a + dot z x + m * (c * b + dot z y)
    rw [dot_vAdd z x y m (by simpa using h)]
    grind
theorem vAdd_dot (z x y : List Int) (m : Int) (h : x.length = y.length) : dot (vAdd x m y) z = dot x z + m * dot y z := by
  rw [dot_comm, dot_vAdd z x y m h, dot_comm z x, dot_comm z y]
theorem dot_self : ∀ (x : List Int), 0 ≤ dot x x ∧ (dot x x = 0 → x = List.replicate x.length 0)
  | [] => ⟨Int.le_refl _, fun _ => rfl⟩
  | a :: x => by
    obtain ⟨h1, h2⟩ := dot_self x
    have e : dot (a :: x) (a :: x) = a * a + dot x x := rfl
    have ha : 0 ≤ a * a := by
      rcases Int.le_total 0 a with h | h
      · exact Int.mul_nonneg h h
      · exact Int.mul_nonneg_of_nonpos_of_nonpos h h
    refine ⟨by omega, fun hz => ?_⟩
    have ha0 : a * a = 0 := by omega
    have : a = 0 := by rcases Int.mul_eq_zero.mp ha0 with h | h <;> exact h
    subst this
    show 0 :: x = 0 :: List.replicate x.length 0
    rw [← h2 (by omega)]
def pr (x : List Int) (ys : Mat) : List Int := ys.map fun y => dot x y
def gm (xs ys : Mat) : Mat := xs.map fun x => pr x ys
theorem pr_vAdd {x y : List Int} {m : Int} (ys : Mat) (h : x.length = y.length) : pr (vAdd x m y) ys = vAdd (pr x ys) m (pr y ys) := by
  induction ys with
  | nil => rfl
  | cons z ys ih =>
    show dot (vAdd x m y) z :: pr (vAdd x m y) ys = (dot x z + m * dot y z) :: vAdd (pr x ys) m (pr y ys)
    rw [ih, vAdd_dot z x y m h]
theorem pr_len (x : List Int) (ys : Mat) : (pr x ys).length = ys.length := List.length_map ..
theorem gm_set (xs ys : Mat) (i : Nat) (x : List Int) : gm (xs.set i x) ys = (gm xs ys).set i (pr x ys) := by
  unfold gm; rw [List.map_set]
theorem gm_sq {xs ys : Mat} {n m : Nat} (h : xs.length = n) (k : ys.length = m) : Sq n m (gm xs ys) := ⟨by unfold gm; rw [List.length_map]; exact h, fun r hr => by
  unfold gm at hr
  obtain ⟨x, _, rfl⟩ := List.mem_map.mp hr
  rw [pr_len]; exact k⟩
theorem gm_get {xs ys : Mat} {i : Nat} {x : List Int} (h : xs[i]? = some x) : (gm xs ys)[i]? = some (pr x ys) := by
  unfold gm; rw [List.getElem?_map, h]; rfl
/-- the determinant of products is the same when both sides are exchanged -/
theorem gm_T : ∀ (n : Nat) (xs ys : Mat), n ≤ 4 → xs.length = n → ys.length = n → detN n (gm xs ys) = detN n (gm ys xs)
  | 0, _, _, _, _, _ => rfl
  | 1, [x], [y], _, _, _ => by
    simp [gm, pr, detN, sumR, minor, sg, dot_comm x y]
  | 2, [x0, x1], [y0, y1], _, _, _ => by
    simp [gm, pr, detN, sumR, minor, sg]
    rw [dot_comm y0 x0, dot_comm y0 x1, dot_comm y1 x0, dot_comm y1 x1]
    grind
  | 3, [x0, x1, x2], [y0, y1, y2], _, _, _ => by
    simp [gm, pr, detN, sumR, minor, sg]
    rw [dot_comm y0 x0, dot_comm y0 x1, dot_comm y0 x2, dot_comm y1 x0, dot_comm y1 x1, dot_comm y1 x2, dot_comm y2 x0, dot_comm y2 x1, dot_comm y2 x2]
    grind
  | 4, [x0, x1, x2, x3], [y0, y1, y2, y3], _, _, _ => by
    simp [gm, pr, detN, sumR, minor, sg]
    rw [dot_comm y0 x0, dot_comm y0 x1, dot_comm y0 x2, dot_comm y0 x3, dot_comm y1 x0, dot_comm y1 x1, dot_comm y1 x2, dot_comm y1 x3, dot_comm y2 x0, dot_comm y2 x1, dot_comm y2 x2, dot_comm y2 x3, dot_comm y3 x0, dot_comm y3 x1, dot_comm y3 x2, dot_comm y3 x3]
    grind
  | n + 5, _, _, h, _, _ => by omega
/-- products' determinant with one more row on either side -/
def Mu (rows : Mat) (a : Nat) (x y : List Int) : Int := detN (a + 1) (gm (rows.take a ++ [x]) (rows.take a ++ [y]))
/-- what the first rows span, squared -/
def Dd (rows : Mat) (a : Nat) : Int := detN a (gm (rows.take a) (rows.take a))
theorem Dd_succ {rows : Mat} {a : Nat} {r : List Int} (h : rows[a]? = some r) : Dd rows (a + 1) = Mu rows a r r := by
  unfold Dd Mu
  rw [take_succ h]
theorem Dd_zero (rows : Mat) : Dd rows 0 = 1 := rfl
/-- Sylvester's identity -/
theorem syl : ∀ (a : Nat) (rows : Mat) (r x y : List Int), a ≤ 2 → rows[a]? = some r → Mu rows a r r * Mu rows a x y - Mu rows a x r * Mu rows a r y = Dd rows a * Mu rows (a + 1) x y
  | 0, r0 :: rest, r, x, y, _, h => by
    obtain rfl : r0 = r := by simpa using h
    simp [Mu, Dd, gm, pr, detN, sumR, minor, sg]
    grind
  | 1, r0 :: r1 :: rest, r, x, y, _, h => by
    obtain rfl : r1 = r := by simpa using h
    simp [Mu, Dd, gm, pr, detN, sumR, minor, sg]
    grind
  | 2, r0 :: r1 :: r2 :: rest, r, x, y, _, h => by
    obtain rfl : r2 = r := by simpa using h
    simp [Mu, Dd, gm, pr, detN, sumR, minor, sg]
    grind
  | 0, [], _, _, _, _, h => by simp at h
  | 1, [], _, _, _, _, h => by simp at h
  | 1, [_], _, _, _, _, h => by simp at h
  | 2, [], _, _, _, _, h => by simp at h
  | 2, [_], _, _, _, _, h => by simp at h
  | 2, [_, _], _, _, _, _, h => by simp at h
  | a + 3, _, _, _, _, h, _ => by omega
end L3
namespace L3
open PySem PySem.Spec PyProof.Rows L2
theorem set_last {α : Type} (l : List α) (x v : α) : (l ++ [x]).set l.length v = l ++ [v] := by
  induction l with
  | nil => rfl
  | cons y l ih => show y :: (l ++ [x]).set l.length v = y :: (l ++ [v]); rw [ih]
theorem take_len {rows : Mat} {a : Nat} (h : a ≤ rows.length) : (rows.take a).length = a := by rw [List.length_take]; omega
theorem gm_last {rows : Mat} {a : Nat} {x v : List Int} (ys : Mat) (h : a ≤ rows.length) : gm (rows.take a ++ [v]) ys = (gm (rows.take a ++ [x]) ys).set a (pr v ys) := by
  rw [← gm_set]
  congr 1
  have := set_last (rows.take a) x v
  rw [take_len h] at this
  exact this.symm
theorem one_len {l : Mat} {a : Nat} {x : List Int} (h : l.length = a) : (l ++ [x]).length = a + 1 := by rw [List.length_append, h]; rfl
theorem Mu_symm {rows : Mat} {a : Nat} {x y : List Int} (ha : a ≤ 3) (h : a ≤ rows.length) : Mu rows a x y = Mu rows a y x :=
  gm_T (a + 1) _ _ (by omega) (one_len (take_len h)) (one_len (take_len h))
theorem Mu_linL {rows : Mat} {a : Nat} {x x' y : List Int} {m : Int} (h : a ≤ rows.length) (hl : x.length = x'.length) : Mu rows a (vAdd x m x') y = Mu rows a x y + m * Mu rows a x' y := by
  unfold Mu
  have l1 := take_len h
  have sq : Sq (a + 1) (a + 1) (gm (rows.take a ++ [x]) (rows.take a ++ [y])) := gm_sq (one_len l1) (one_len l1)
  rw [gm_last (x := x) (v := vAdd x m x') _ h, pr_vAdd _ hl, det_lin (a + 1) _ a _ _ m sq (by omega) (by rw [pr_len]; exact one_len l1) (by rw [pr_len]; exact one_len l1), ← gm_last _ h, ← gm_last _ h]
theorem Mu_linR {rows : Mat} {a : Nat} {x y y' : List Int} {m : Int} (ha : a ≤ 3) (h : a ≤ rows.length) (hl : y.length = y'.length) : Mu rows a x (vAdd y m y') = Mu rows a x y + m * Mu rows a x y' := by
  rw [Mu_symm ha h, Mu_linL h hl, Mu_symm ha h, Mu_symm (x := y') ha h]
theorem Mu_altL {rows : Mat} {a i : Nat} {r y : List Int} (ha : a ≤ 3) (h : a ≤ rows.length) (hi : i < a) (hr : rows[i]? = some r) : Mu rows a r y = 0 := by
  unfold Mu
  have l1 := take_len h
  have e1 : (rows.take a ++ [r])[i]? = some r := by rw [List.getElem?_append_left (by omega), List.getElem?_take, if_pos hi]; exact hr
  have e2 : (rows.take a ++ [r])[a]? = some r := by rw [List.getElem?_append_right (by omega), l1]; simp
  exact det_alt' (by omega) (gm_sq (one_len l1) (one_len l1)) (show i ≠ a by omega) (gm_get e1) (gm_get e2)
theorem Mu_altR {rows : Mat} {a i : Nat} {r x : List Int} (ha : a ≤ 3) (h : a ≤ rows.length) (hi : i < a) (hr : rows[i]? = some r) : Mu rows a x r = 0 := by
  rw [Mu_symm ha h]; exact Mu_altL ha h hi hr
theorem scale_vAdd (k : Int) (x : List Int) : x.map (k * ·) = vAdd x (k - 1) x := by
  unfold vAdd
  rw [List.zipWith_self]
  exact List.map_congr_left fun a _ => by grind
theorem Mu_scaleL {rows : Mat} {a : Nat} {x y : List Int} {k : Int} (h : a ≤ rows.length) : Mu rows a (x.map (k * ·)) y = k * Mu rows a x y := by
  rw [scale_vAdd, Mu_linL h rfl]; grind
theorem Mu_scaleR {rows : Mat} {a : Nat} {x y : List Int} {k : Int} (ha : a ≤ 3) (h : a ≤ rows.length) : Mu rows a x (y.map (k * ·)) = k * Mu rows a x y := by
  rw [Mu_symm ha h, Mu_scaleL h, Mu_symm ha h]
/-- so many times a row is one of those ahead -/
def IsDep (n : Nat) (rows : Mat) (a : Nat) (y : List Int) : Prop := ∃ k : Int, 0 < k ∧ Span n (rows.take a) (y.map (k * ·))
theorem scale_len (k : Int) (x : List Int) : (x.map (k * ·)).length = x.length := List.length_map ..
theorem take_sq {m n a : Nat} {rows : Mat} (h : Sq m n rows) (ha : a ≤ m) : Sq a n (rows.take a) := ⟨take_len (by rw [h.1]; exact ha), fun r hr => h.2 r (List.mem_of_mem_take hr)⟩
theorem Span.mono {n : Nat} {rows rows' : Mat} {x : List Int} (s : Span n rows x) (h : ∀ r ∈ rows, r ∈ rows') : Span n rows' x := by
  induction s with
  | zero => exact .zero
  | add k _ hr ih => exact .add k ih (h _ hr)
theorem Mu_zero (rows : Mat) (x y : List Int) : Mu rows 0 x y = dot x y := by
  simp [Mu, gm, pr, detN, sumR, minor, sg]
theorem mu_pos {m n : Nat} {rows : Mat} (h : Sq m n rows) : ∀ (a : Nat), a ≤ 3 → a ≤ m → (∀ b, b < a → 0 < Dd rows (b + 1)) → ∀ y : List Int, y.length = n → 0 ≤ Mu rows a y y ∧ (Mu rows a y y = 0 → IsDep n rows a y)
  | 0, _, _, _, y, hy => by
    rw [Mu_zero]
    refine ⟨(dot_self y).1, fun hz => ⟨1, by decide, ?_⟩⟩
    have e : y.map (1 * ·) = List.replicate n 0 := by
      rw [← hy, ← (dot_self y).2 hz]; simp
    rw [e]
    exact .zero
  | a + 1, ha, hm, hp, y, hy => by
    have hl := h.1
    obtain ⟨r, hr⟩ : ∃ r, rows[a]? = some r := ⟨_, List.getElem?_eq_getElem (by omega)⟩
    have lr := h.2 r (List.mem_of_getElem? hr)
    have ih := mu_pos h a (by omega) (by omega) fun b hb => hp b (by omega)
    have hD : 0 < Mu rows a r r := by rw [← Dd_succ hr]; exact hp a (by omega)
    have hd0 : 0 < Dd rows a := by
      match a, hp with
      | 0, _ => rw [Dd_zero]; decide
      | a + 1, hp => exact hp a (by omega)
    have hs := syl a rows r y y (by omega) hr
    have sy : Mu rows a r y = Mu rows a y r := Mu_symm (by omega) (by omega)
    rw [sy] at hs
    have lt : (y.map (Mu rows a r r * ·)).length = r.length := by rw [scale_len]; omega
    obtain ⟨i1, i2⟩ := ih (vAdd (y.map (Mu rows a r r * ·)) (-(Mu rows a y r)) r) (vAdd_len (by rw [scale_len]; exact hy) lr)
    have et : Mu rows a (vAdd (y.map (Mu rows a r r * ·)) (-(Mu rows a y r)) r) (vAdd (y.map (Mu rows a r r * ·)) (-(Mu rows a y r)) r) = Mu rows a r r * (Dd rows a * Mu rows (a + 1) y y) := by
      rw [Mu_linL (by omega) lt, Mu_linR (by omega) (by omega) lt, Mu_linR (by omega) (by omega) lt, Mu_scaleL (by omega), Mu_scaleL (by omega), Mu_scaleR (by omega) (by omega), Mu_scaleR (by omega) (by omega), sy, ← hs]
      grind
    rw [et] at i1 i2
    have p1 : 0 < Mu rows a r r * Dd rows a := Int.mul_pos hD hd0
    refine ⟨?_, fun hz => ?_⟩
    · rcases Int.lt_or_le (Mu rows (a + 1) y y) 0 with c | c
      · have : Mu rows a r r * Dd rows a * Mu rows (a + 1) y y < 0 := Int.mul_neg_of_pos_of_neg p1 c
        rw [Int.mul_assoc] at this
        omega
      · exact c
    · obtain ⟨k, k0, sp⟩ := i2 (by rw [hz]; simp)
      refine ⟨k * Mu rows a r r, Int.mul_pos k0 hD, ?_⟩
      have mem : r ∈ rows.take (a + 1) := by rw [take_succ hr]; simp
      have sp2 := Span.add (k * Mu rows a y r) (sp.mono (rows' := rows.take (a + 1)) fun r hr => by rw [show rows.take a = (rows.take (a + 1)).take a by rw [List.take_take, Nat.min_eq_left (Nat.le_succ a)]] at hr; exact List.mem_of_mem_take hr) mem
      have e : vAdd ((vAdd (y.map (Mu rows a r r * ·)) (-(Mu rows a y r)) r).map (k * ·)) (k * Mu rows a y r) r = y.map (k * Mu rows a r r * ·) := by
        unfold vAdd
        refine List.ext_getElem (by simp only [List.length_zipWith, List.length_map]; omega) fun i h1 h2 => ?_
        simp only [List.getElem_zipWith, List.getElem_map]
        grind
      rw [e] at sp2
      exact sp2
/-- a row that follows from those ahead: nothing is spanned -/
theorem dep_det {n a : Nat} {rows : Mat} {r : List Int} (h4 : n ≤ 4) (h : Sq n n rows) (hr : rows[a]? = some r) (hd : IsDep n rows a r) : detN n rows = 0 := by
  obtain ⟨k, k0, sp⟩ := hd
  have hl := h.1
  have al := (List.getElem?_eq_some_iff.mp hr).1
  have z : ∀ x, Span n (rows.take a) x → detN n (rows.set a x) = 0 := by
    intro x s
    induction s with
    | zero =>
      have e : (List.replicate n (0 : Int)) = (List.replicate n (0 : Int)).map (0 * ·) := by simp
      rw [e, det_scale 0 h (by omega) (by simp), Int.zero_mul]
    | @add x s m sx hs ih =>
      obtain ⟨i, hi⟩ := List.getElem?_of_mem hs
      have hia : i < a := by have := (List.getElem?_eq_some_iff.mp hi).1; rw [List.length_take] at this; omega
      rw [List.getElem?_take, if_pos hia] at hi
      have ls := h.2 s (List.mem_of_getElem? hi)
      rw [det_lin n rows a x s m h (by omega) (sx.len (take_sq h (by omega))) ls, ih, det_alt' (x := s) (i := i) (j := a) h4 (h.set ls) (by omega) (by rw [List.getElem?_set_ne (by omega)]; exact hi) (by rw [List.getElem?_set_self al])]
      simp
  have := z _ sp
  rw [det_scale k h (by omega) (h.2 r (List.mem_of_getElem? hr)), set_same hr] at this
  rcases Int.mul_eq_zero.mp this with q | q
  · omega
  · exact q
theorem Dd_pos {n : Nat} {rows : Mat} (h4 : n ≤ 4) (h : Sq n n rows) (hd : detN n rows ≠ 0) : ∀ a, a ≤ n → 0 < Dd rows a
  | 0, _ => by rw [Dd_zero]; decide
  | a + 1, ha => by
    have hl := h.1
    obtain ⟨r, hr⟩ : ∃ r, rows[a]? = some r := ⟨_, List.getElem?_eq_getElem (by omega)⟩
    obtain ⟨p1, p2⟩ := mu_pos h a (by omega) (by omega) (fun b hb => Dd_pos h4 h hd (b + 1) (by omega)) r (h.2 r (List.mem_of_getElem? hr))
    rw [Dd_succ hr]
    rcases Int.lt_or_le 0 (Mu rows a r r) with c | c
    · exact c
    · exact absurd (dep_det h4 h hr (p2 (by omega))) hd
/-- a row ahead put so many times to one behind: the spans stay -/
theorem Dd_add {n i j a : Nat} {rows : Mat} {U V : List Int} {m : Int} (h4 : n ≤ 4) (h : Sq n n rows) (hj : j < i) (hU : rows[i]? = some U) (hV : rows[j]? = some V) (ha : a ≤ n) : Dd (rows.set i (vAdd U m V)) a = Dd rows a := by
  have hl := h.1
  have lU := h.2 U (List.mem_of_getElem? hU)
  have lV := h.2 V (List.mem_of_getElem? hV)
  unfold Dd
  by_cases hia : i < a
  · have e : (rows.set i (vAdd U m V)).take a = (rows.take a).set i (vAdd U m V) := by rw [List.take_set]
    have l1 := take_len (rows := rows) (a := a) (by omega)
    have gU : (rows.take a)[i]? = some U := by rw [List.getElem?_take, if_pos hia]; exact hU
    have gV : (rows.take a)[j]? = some V := by rw [List.getElem?_take, if_pos (by omega)]; exact hV
    have step : ∀ ys : Mat, ys.length = a → detN a (gm ((rows.take a).set i (vAdd U m V)) ys) = detN a (gm (rows.take a) ys) := fun ys ly => by
      rw [gm_set, pr_vAdd ys (by omega)]
      exact det_add m (by omega) (gm_sq l1 ly) (by omega) (gm_get gU) (gm_get gV)
    rw [e, step _ (by rw [List.length_set]; exact l1), gm_T a _ _ (by omega) l1 (by rw [List.length_set]; exact l1), step _ l1]
  · rw [List.take_set, List.set_eq_of_length_le (by rw [List.length_take]; omega)]
theorem Dd_swap {n i a : Nat} {rows : Mat} {U V : List Int} (h4 : n ≤ 4) (h : Sq n n rows) (hU : rows[i]? = some U) (hV : rows[i + 1]? = some V) (ha : a ≤ n) (hne : a ≠ i + 1) : Dd ((rows.set i V).set (i + 1) U) a = Dd rows a := by
  have hl := h.1
  unfold Dd
  by_cases hia : i + 1 < a
  · have e : ((rows.set i V).set (i + 1) U).take a = ((rows.take a).set i V).set (i + 1) U := by rw [List.take_set, List.take_set]
    have l1 := take_len (rows := rows) (a := a) (by omega)
    have gU : (rows.take a)[i]? = some U := by rw [List.getElem?_take, if_pos (by omega)]; exact hU
    have gV : (rows.take a)[i + 1]? = some V := by rw [List.getElem?_take, if_pos hia]; exact hV
    have step : ∀ ys : Mat, ys.length = a → detN a (gm (((rows.take a).set i V).set (i + 1) U) ys) = - detN a (gm (rows.take a) ys) := fun ys ly => by
      rw [gm_set, gm_set]
      exact det_swap (by omega) (gm_sq l1 ly) (by omega) (gm_get gU) (gm_get gV)
    have l2 : (((rows.take a).set i V).set (i + 1) U).length = a := by rw [List.length_set, List.length_set]; exact l1
    rw [e, step _ l2, gm_T a _ _ (by omega) l1 l2, step _ l1, Int.neg_neg]
  · rw [List.take_set, List.take_set, List.set_eq_of_length_le (by rw [List.length_set, List.length_take]; omega), List.set_eq_of_length_le (by rw [List.length_take]; omega)]
theorem Dd_swapped {i : Nat} {rows : Mat} {U V : List Int} (hU : rows[i]? = some U) (hV : rows[i + 1]? = some V) : Dd ((rows.set i V).set (i + 1) U) (i + 1) = Mu rows i V V := by
  have hi := (List.getElem?_eq_some_iff.mp hU).1
  have e : ((rows.set i V).set (i + 1) U)[i]? = some V := by rw [List.getElem?_set_ne (by omega), List.getElem?_set_self hi]
  rw [Dd_succ e]
  unfold Mu
  rw [List.take_set, List.take_set, List.set_eq_of_length_le (by rw [List.length_set, List.length_take]; omega), List.set_eq_of_length_le (by rw [List.length_take]; omega)]
end L3
set_option pp.maxSteps 600
namespace L3
open PySem PySem.Spec PyProof.Rows L2
local macro_rules | `(tactic| wtm_at "sh") => `(tactic| conv => whnf)
def N_product_of : List Str := ["one", "other", "left", "right"]
def body_product_of : TS3 := (xRet (xD (x1 cSum (xFz (xLc (xZipX (xView 0) (xView 1)) (xGTup 2 (xGCons (xGName 2) (xGCons (xGName 3) xGNil))) xYes (xD (x2 kMul (xView 2) (xView 3))) [2, 3])))))
def sp_product_of : Sp3 := fun ts Q _ => ∃ p q x y n k, ts = [.d (seqB p x), .d (seqB q y)] ∧ (∀ a ∈ x, Sz n a) ∧ (∀ a ∈ y, Sz k a) ∧ n + k < 1000000 ∧ x.length ≤ 1000 ∧ y.length = x.length ∧ Q (.d (.int (dot x y))) ts
theorem dot_sum : ∀ (x y : List Int), (List.zipWith (fun a b => a * b) x y).sum = dot x y
  | [], [] => rfl
  | [], _ :: _ => rfl
  | _ :: _, [] => rfl
  | a :: x, b :: y => by
    show (a * b :: List.zipWith (fun a b => a * b) x y).sum = a * b + dot x y
    rw [List.sum_cons, dot_sum x y]
theorem intL_map (l : List Int) : intL (l.map PyData.int) = l := by
  induction l with
  | nil => rfl
  | cons x l ih => show x :: intL (l.map PyData.int) = x :: l; rw [ih]
theorem v_product_of (ts Q E) (h : sp_product_of ts Q E) : body_product_of { nx := fun r => finOk ts r ∧ Q (.d .none) (finF ts r), rt := fun x r => finOk ts r ∧ Q x (finF ts r) } (start3 N_product_of ts) := by
  obtain ⟨p, q, x, y, n, k, rfl, hx, hy, hnk, hlen, hl, kk⟩ := h
  have hb2 : 1000 < sizeLine := by decide
  have lz : (List.zipWith (fun a b : Int => a * b) x y).length = x.length := by rw [List.length_zipWith]; omega
  refine ⟨_, _, seqB_of p x, seqB_of q y, lc_gen ((List.zipWith (fun a b : Int => a * b) x y).map PyData.int) (by rw [zipD_len, List.length_map, List.length_map, List.length_map]; omega) (by rw [zipD_len, List.length_map, List.length_map]; omega) (fun r0 h0 i u w hu hw R S ku => ?_) fun r0 h0 pa => ?_⟩
  · simp only [wp, puts, List.set_cons_succ, List.set_cons_zero] at h0; subst h0
    obtain ⟨a, b, ha, hb, rfl⟩ := zip_at hu
    have hw2 : (List.zipWith (fun a b : Int => a * b) x y)[i]? = some (a * b) := by rw [List.getElem?_zipWith, ha, hb]
    rw [List.getElem?_map, hw2] at hw
    cases hw
    exact ⟨rfl, fun _ => ⟨mulOk (hx a (List.mem_of_getElem? ha)) (hy b (List.mem_of_getElem? hb)) hnk, ku _ rfl⟩, nofun⟩
  · simp only [wp, puts, List.set_cons_succ, List.set_cons_zero] at h0; subst h0
    refine ⟨nvs_d _, ?_⟩
    rw [fz_outs]
    refine ⟨allI_map _, ⟨⟩, ?_⟩
    rw [intL_map, dot_sum]
    exact kk
theorem dot_sz {n k : Nat} : ∀ (x y : List Int), (∀ a ∈ x, Sz n a) → (∀ a ∈ y, Sz k a) → (dot x y).natAbs ≤ x.length * 2 ^ (n + k)
  | [], [], _, _ => by show (0 : Int).natAbs ≤ _; simp
  | [], _ :: _, _, _ => by show (0 : Int).natAbs ≤ _; simp
  | _ :: _, [], _, _ => by show (0 : Int).natAbs ≤ _; simp
  | a :: x, b :: y, hx, hy => by
    have h1 := dot_sz x y (fun a h => hx a (List.mem_cons_of_mem _ h)) fun a h => hy a (List.mem_cons_of_mem _ h)
    have h2 : (a * b).natAbs < 2 ^ (n + k) := (hx a (List.mem_cons_self ..)).mul (hy b (List.mem_cons_self ..))
    have h3 := Int.natAbs_add_le (a * b) (dot x y)
    show (a * b + dot x y).natAbs ≤ (x.length + 1) * 2 ^ (n + k)
    rw [Nat.add_mul]
    omega
theorem dot_Sz {n b : Nat} {x y : List Int} (h4 : n ≤ 4) (hx : x.length = n) (zx : SzL b x) (zy : SzL b y) : Sz (2 * b + 3) (dot x y) := by
  have h := dot_sz (n := b) (k := b) x y (fun a h => zx.mem h) fun a h => zy.mem h
  unfold Sz
  rw [hx] at h
  have h2 : n * 2 ^ (b + b) ≤ 4 * 2 ^ (b + b) := Nat.mul_le_mul_right _ h4
  rw [show 2 * b + 3 = (b + b) + 3 by omega, Nat.pow_add]
  have : 0 < 2 ^ (b + b) := Nat.pow_pos (by decide)
  omega
theorem pr_Sz {n b : Nat} {x : List Int} {ys : Mat} (h4 : n ≤ 4) (hx : x.length = n) (zx : SzL b x) (zy : ∀ y ∈ ys, SzL b y) : SzL (2 * b + 3) (pr x ys) := SzL.of fun v hv => by
  unfold pr at hv
  obtain ⟨y, hy, rfl⟩ := List.mem_map.mp hv
  exact dot_Sz h4 hx zx (zy y hy)
theorem Mu_Sz {m n b a : Nat} {rows : Mat} {x y : List Int} (h4 : n ≤ 4) (h : Sq m n rows) (ha : a ≤ 3) (ham : a ≤ m) (hz : ∀ r ∈ rows, SzL b r) (hx : x.length = n) (zx : SzL b x) (zy : SzL b y) : Sz (8 * b + 21) (Mu rows a x y) := by
  have l1 := take_len (rows := rows) (a := a) (by rw [h.1]; exact ham)
  have z2 : ∀ v ∈ rows.take a ++ [y], SzL b v := fun v hv => by
    rcases List.mem_append.mp hv with q | q
    · exact hz v (List.mem_of_mem_take q)
    · rw [List.mem_singleton.mp q]; exact zy
  have z3 : ∀ r ∈ gm (rows.take a ++ [x]) (rows.take a ++ [y]), SzL (2 * b + 3) r := fun r hr => by
    unfold gm at hr
    obtain ⟨v, hv, rfl⟩ := List.mem_map.mp hr
    rcases List.mem_append.mp hv with q | q
    · exact pr_Sz h4 (h.2 v (List.mem_of_mem_take q)) (hz v (List.mem_of_mem_take q)) z2
    · rw [List.mem_singleton.mp q]; exact pr_Sz h4 hx zx z2
  have := det_Sz (n := a + 1) (by omega) (gm_sq (one_len l1) (one_len l1)) z3
  have e : (a + 1) * (2 * b + 3 + 2) ≤ 4 * (2 * b + 3 + 2) := Nat.mul_le_mul_right _ (by omega)
  exact this.mono (by omega)
/-- the share of a row at a place, times what is spanned -/
def lam (rows : Mat) (i j : Nat) : Int := Mu rows j (rows.getD j []) (rows.getD i [])
def L1_shares_of : TS3 := (xFor (xR1 (xView 6)) (xGName 8) (xSeq (xAsg (xBor (xD (x2 cIx (x2 cIx (xFz (x2 cAdd (xView 2) (xFz (xLst (xCons (xMove 5) xNil))))) (xView 6)) (xView 8)))) (xGName 9))
  (xAsg (xD (x2 kDiv (x2 kSub (x2 kMul (x2 cIx (xView 1) (x2 kAdd (xView 8) (xC (.int 1)))) (xView 7)) (x2 kMul (x2 cIx (xView 5) (xView 8)) (xView 9))) (x2 cIx (xView 1) (xView 8)))) (xGName 7))))
def L2_shares_of : TS3 := (xFor (xR1 (x2 kAdd (xView 3) (xC (.int 1)))) (xGName 6) (xSeq (xAsg (xCall sp_product_of xNoE (xArg (xView 4) (xArg (x2 cIx (xView 0) (xView 6)) xANil))) (xGName 7))
  (xSeq L1_shares_of
  (xDrop (xApp 5 (xMove 7))))))
def L3_shares_of : TS3 := (xFor (xEnumX (xView 0)) (xGTup 2 (xGCons (xGName 3) (xGCons (xGName 4) xGNil))) (xSeq (xAsg (xLst xNil) (xGName 5))
  (xSeq L2_shares_of
  (xSeq (xDrop (xApp 1 (xD (x2 cIx (xView 5) (xView 3)))))
  (xDrop (xApp 2 (xMove 5)))))))
def N_shares_of : List Str := ["rows", "spans", "shares", "at", "row", "own", "place", "number", "ahead", "beside"]
def body_shares_of : TS3 := (xSeq (xAsg (xLst (xCons (xD (xC (.int 1))) xNil)) (xGName 1))
  (xSeq (xAsg (xLst xNil) (xGName 2))
  (xSeq L3_shares_of
  (xRet (xTup (xCons (xMove 2) (xCons (xMove 1) xNil)))))))
/-- rows as a tuple of tuples, or a list of lists -/
def matB (b : Bool) (rows : Mat) : PyData := match b with | true => matP rows | false => .list (rows.map rowD)
def lamR (rows : Mat) (i k : Nat) : List Int := (List.range k).map fun j => lam rows i j
def shT (rows : Mat) (f : Nat → Addr) (m : Nat) : List T := (List.range m).map fun i => T.own (f i) ((lamR rows i (i + 1)).map fun x => T.d (.int x))
def spL (rows : Mat) (k : Nat) : List Int := (List.range k).map fun j => Dd rows j
def sp_shares_of : Sp3 := fun ts Q _ => ∃ rb rows m n b, ts = [.d (matB rb rows)] ∧ Sq m n rows ∧ m ≤ 4 ∧ n ≤ 4 ∧ (∀ a, a < m → 0 < Dd rows a) ∧ (∀ a, a < m → Sz 8999 (Dd rows a)) ∧ (∀ r ∈ rows, SzL b r) ∧ b ≤ 60000 ∧ ∀ ps pq f, Q (.tp [.own ps (shT rows f m), .own pq ((spL rows (m + 1)).map fun x => T.d (.int x))]) ts
theorem lamR_get {rows : Mat} {i k j : Nat} (h : j < k) : getI ((lamR rows i k).map PyData.int) (j : Nat) = some (.int (lam rows i j)) := by
  refine getI_at rfl ?_
  unfold lamR
  rw [List.getElem?_map, List.getElem?_map, List.getElem?_range h]; rfl
theorem lamO_get {rows : Mat} {i k j : Nat} (h : j < k) : getI ((lamR rows i k).map fun x => T.d (.int x)) (j : Nat) = some (.d (.int (lam rows i j))) := by
  refine getI_at rfl ?_
  unfold lamR
  rw [List.getElem?_map, List.getElem?_map, List.getElem?_range h]; rfl
theorem spO_get {rows : Mat} {k j : Nat} {jj : Int} (e : jj = (j : Nat)) (h : j < k) : getI ((spL rows k).map fun x => T.d (.int x)) jj = some (.d (.int (Dd rows j))) := by
  refine getI_at e ?_
  unfold spL
  rw [List.getElem?_map, List.getElem?_map, List.getElem?_range h]; rfl
theorem lamR_succ (rows : Mat) (i k : Nat) : lamR rows i (k + 1) = lamR rows i k ++ [lam rows i k] := by
  unfold lamR; rw [List.range_succ, List.map_append]; rfl
theorem spL_succ (rows : Mat) (k : Nat) : spL rows (k + 1) = spL rows k ++ [Dd rows k] := by
  unfold spL; rw [List.range_succ, List.map_append]; rfl
theorem lamR_len (rows : Mat) (i k : Nat) : (lamR rows i k).length = k := by unfold lamR; rw [List.length_map, List.length_range]
theorem spL_len (rows : Mat) (k : Nat) : (spL rows k).length = k := by unfold spL; rw [List.length_map, List.length_range]
theorem shT_len (rows : Mat) (f : Nat → Addr) (k : Nat) : (shT rows f k).length = k := by unfold shT; rw [List.length_map, List.length_range]
theorem fzs_mapT {α : Type} (g : α → T) (l : List α) : fzs (l.map g) = l.map fun x => fz (g x) := by
  induction l with
  | nil => rfl
  | cons x l ih => show fz (g x) :: fzs (l.map g) = fz (g x) :: l.map fun x => fz (g x); rw [ih]
theorem nvs_mapT {α : Type} (g : α → T) (l : List α) (h : ∀ x ∈ l, nv (g x) = true) : nvs (l.map g) = true := by
  induction l with
  | nil => rfl
  | cons x l ih =>
    show (nv (g x) && nvs (l.map g)) = true
    rw [h x (by simp), ih fun y hy => h y (List.mem_cons_of_mem _ hy)]; rfl
theorem fzs_shT (rows : Mat) (f : Nat → Addr) (m : Nat) : fzs (shT rows f m) = (List.range m).map fun i => rowD (lamR rows i (i + 1)) := by
  unfold shT
  rw [fzs_mapT]
  refine List.map_congr_left fun i _ => ?_
  show PyData.list (fzs ((lamR rows i (i + 1)).map fun x => T.d (.int x))) = _
  rw [fzs_map]
theorem nvs_shT (rows : Mat) (f : Nat → Addr) (m : Nat) : nvs (shT rows f m) = true := nvs_mapT _ _ fun i _ => nvs_map _ _
theorem lam_at {rows : Mat} {i j : Nat} {r s : List Int} (h : rows[i]? = some r) (k : rows[j]? = some s) : lam rows i j = Mu rows j s r := by
  unfold lam
  rw [List.getD_eq_getElem?_getD, List.getD_eq_getElem?_getD, h, k]; rfl
/-- nothing to lend there -/
def NoOwn (q : Option T) : Prop := ∀ r, nvR r → nvR (q :: r)
theorem v_L1_shares_of {D : Ends3} {pq ps p5 : Addr} {f : Nat → Addr} {rows : Mat} {m n b i p : Nat} {ri rp : List Int} {s0 : PyData} {s4 : PyData} {s8 s9 : Option T} (h8 : NoOwn s8) (h9 : NoOwn s9) (hs : Sq m n rows) (m4 : m ≤ 4) (n4 : n ≤ 4) (hd : ∀ a, a < m → 0 < Dd rows a) (hd2 : ∀ a, a < m → Sz 8999 (Dd rows a)) (hz : ∀ r ∈ rows, SzL b r) (hb : b ≤ 60000) (hpi : p ≤ i) (him : i < m) (hri : rows[i]? = some ri) (hrp : rows[p]? = some rp)
    (q : ∀ s8 s9, NoOwn s8 → NoOwn s9 → D.nx [some (.d s0), some (.own pq ((spL rows (i + 1)).map fun x => T.d (.int x))), some (.own ps (shT rows f i)), some (.d (.int (i : Nat))), some (.d s4), some (.own p5 ((lamR rows i p).map fun x => T.d (.int x))), some (.d (.int (0 + (p : Nat)))), some (.d (.int (lam rows i p))), s8, s9]) :
    L1_shares_of D [some (.d s0), some (.own pq ((spL rows (i + 1)).map fun x => T.d (.int x))), some (.own ps (shT rows f i)), some (.d (.int (i : Nat))), some (.d s4), some (.own p5 ((lamR rows i p).map fun x => T.d (.int x))), some (.d (.int (0 + (p : Nat)))), some (.d (.int (dot ri rp))), s8, s9] := by
  have hb2 : 1000 < sizeLine := by decide
  have hl := hs.1
  have li := hs.2 ri (List.mem_of_getElem? hri)
  have lp := hs.2 rp (List.mem_of_getElem? hrp)
  have zi := hz ri (List.mem_of_getElem? hri)
  have zp := hz rp (List.mem_of_getElem? hrp)
  refine ⟨by omega, by omega, fun a r => ∃ s8 s9 c, r = [some (.d s0), some (.own pq ((spL rows (i + 1)).map fun x => T.d (.int x))), some (.own ps (shT rows f i)), some (.d (.int (i : Nat))), some (.d s4), some (.own p5 ((lamR rows i p).map fun x => T.d (.int x))), some (.d (.int (0 + (p : Nat)))), some (.d (.int c)), s8, s9] ∧ c = Mu rows a rp ri ∧ a ≤ p ∧ NoOwn s8 ∧ NoOwn s9, ⟨_, _, _, rfl, by rw [Mu_zero, dot_comm], by omega, h8, h9⟩, fun a x r hx hW => ?_, fun r hW => ?_⟩
  · obtain ⟨s8, s9, c, rfl, rfl, ha, h8, h9⟩ := hW
    obtain ⟨ha1, rfl⟩ := rangeI_get hx
    have ha2 : a < p := by omega
    obtain ⟨ra, hra⟩ : ∃ ra, rows[a]? = some ra := ⟨_, List.getElem?_eq_getElem (by omega)⟩
    have la := hs.2 ra (List.mem_of_getElem? hra)
    have za := hz ra (List.mem_of_getElem? hra)
    -- the share of the row at the place
    obtain ⟨kk, hk, hk2⟩ : ∃ kk, p ≤ kk ∧ getI (fzs (List.map T.d (fzs (shT rows f i)) ++ List.map T.d (fzs [T.d (PyData.list (fzs ((lamR rows i p).map fun x => T.d (.int x))))]))) (0 + (p : Nat) : Int) = some (rowD (lamR rows p kk)) := by
      rw [← List.map_append, fzs_d, fzs_shT, fzs_map]
      by_cases c : p < i
      · refine ⟨p + 1, by omega, getI_at (k := p) (by omega) ?_⟩
        rw [List.getElem?_append_left (by rw [List.length_map, List.length_range]; exact c), List.getElem?_map, List.getElem?_range c]; rfl
      · have e : p = i := by omega
        subst e
        refine ⟨p, Nat.le_refl _, getI_at (k := p) (by omega) ?_⟩
        rw [List.getElem?_append_right (by rw [List.length_map, List.length_range]; omega), List.length_map, List.length_range, Nat.sub_self]; rfl
    have e0 : (0 + (a : Nat) : Int) = (a : Nat) := by omega
    have e1 : (0 + (a : Nat) + 1 : Int) = ((a + 1 : Nat) : Int) := by omega
    have g1 : getI ((lamR rows p kk).map PyData.int) (0 + (a : Nat) : Int) = some (.int (lam rows p a)) := by rw [e0]; exact lamR_get (by omega)
    have g2 : getI ((lamR rows i p).map fun x => T.d (.int x)) (0 + (a : Nat) : Int) = some (.d (.int (lam rows i a))) := by rw [e0]; exact lamO_get (by omega)
    have g3 := spO_get (rows := rows) (k := i + 1) e1 (by omega)
    have g4 := spO_get (rows := rows) (k := i + 1) e0 (by omega)
    have sM : ∀ x y : List Int, x.length = n → SzL b x → SzL b y → Sz (8 * b + 21) (Mu rows a x y) := fun x y hx zx zy => Mu_Sz n4 hs (by omega) (by omega) hz hx zx zy
    have eD := Dd_succ hra
    have eI := lam_at hri hra
    have eP := lam_at hrp hra
    have sy : Mu rows a ra rp = Mu rows a rp ra := Mu_symm (by omega) (by omega)
    have sl := syl a rows ra rp ri (by omega) hra
    refine ⟨⟨nvs_map _ _, nvs_shT _ _ _, nvs_map _ _, (h9 _ ⟨⟩)⟩, sz 1, fun _ => ⟨rfl, ?_, fun _ => ⟨?_, _, hk2, _, g1, rfl, ?_⟩⟩⟩
    · show (fzs (shT rows f i)).length + 1 ≤ sizeLine
      rw [fzs_shT, List.length_map, List.length_range]; omega
    · show nvs (List.map T.d _ ++ List.map T.d _) = true
      rw [nvs_append, nvs_d, nvs_d]; rfl
    · have sA := sM ra ra la za za
      have sB := sM rp ri lp zp zi
      have sC := sM ra ri la za zi
      have sE := sM ra rp la za zp
      have d0 := hd a (by omega)
      refine ⟨rfl, _, g3, mulOk (n := 8 * b + 21) (m := 8 * b + 21) (by rw [eD]; exact sA) sB (by omega), rfl, _, g2, mulOk (n := 8 * b + 21) (m := 8 * b + 21) (by rw [eI]; exact sC) (by rw [eP]; exact sE) (by omega), rfl, _, g4, divOk d0 (hd2 a (by omega)) (by decide), _, _, _, rfl, ?_, by omega, fun _ h => h, fun _ h => h⟩
      show (Dd rows (a + 1) * Mu rows a rp ri - lam rows i a * lam rows p a) / Dd rows a = _
      have : Dd rows (a + 1) * Mu rows a rp ri - lam rows i a * lam rows p a = Dd rows a * Mu rows (a + 1) rp ri := by
        rw [eD, eI, eP, ← sl, sy, Int.mul_comm (Mu rows a ra ri)]
      rw [this, Int.mul_ediv_cancel_left _ (by omega)]
  · obtain ⟨s8, s9, c, rfl, rfl, ha, h8, h9⟩ := hW
    rw [rangeI_len] at ha ⊢
    have e : ((0 + (p : Nat) : Int)).toNat = p := by omega
    rw [e, ← lam_at hri hrp]
    exact q _ _ h8 h9
theorem seqB_at {rb : Bool} {rows : Mat} {k : Nat} {i : Int} {r : List Int} (e : i = (k : Nat)) (h : rows[k]? = some r) : getI (rows.map (seqB rb)) i = some (seqB rb r) := getI_at e (by rw [List.getElem?_map, h]; rfl)
theorem v_L2_shares_of {D : Ends3} {rb : Bool} {pq ps p5 : Addr} {f : Nat → Addr} {rows : Mat} {m n b i : Nat} {ri : List Int} {s6 s7 s8 s9 : Option T} (h8 : NoOwn s8) (h9 : NoOwn s9) (hs : Sq m n rows) (m4 : m ≤ 4) (n4 : n ≤ 4) (hd : ∀ a, a < m → 0 < Dd rows a) (hd2 : ∀ a, a < m → Sz 8999 (Dd rows a)) (hz : ∀ r ∈ rows, SzL b r) (hb : b ≤ 60000) (him : i < m) (hri : rows[i]? = some ri)
    (q : ∀ s6 s7 s8 s9, NoOwn s8 → NoOwn s9 → D.nx [some (.d (matB rb rows)), some (.own pq ((spL rows (i + 1)).map fun x => T.d (.int x))), some (.own ps (shT rows f i)), some (.d (.int (i : Nat))), some (.d (seqB rb ri)), some (.own p5 ((lamR rows i (i + 1)).map fun x => T.d (.int x))), s6, s7, s8, s9]) :
    L2_shares_of D [some (.d (matB rb rows)), some (.own pq ((spL rows (i + 1)).map fun x => T.d (.int x))), some (.own ps (shT rows f i)), some (.d (.int (i : Nat))), some (.d (seqB rb ri)), some (.own p5 []), s6, s7, s8, s9] := by
  have hb2 : 1000 < sizeLine := by decide
  have hl := hs.1
  have li := hs.2 ri (List.mem_of_getElem? hri)
  have zi := hz ri (List.mem_of_getElem? hri)
  cases rb
  · refine ⟨by omega, by omega, fun j r => ∃ L s6 s7 s8 s9, r = [some (.d (matB false rows)), some (.own pq ((spL rows (i + 1)).map fun x => T.d (.int x))), some (.own ps (shT rows f i)), some (.d (.int (i : Nat))), some (.d (seqB false ri)), some (.own p5 L), s6, s7, s8, s9] ∧ L = ((lamR rows i j).map fun x => T.d (.int x)) ∧ j ≤ i + 1 ∧ NoOwn s8 ∧ NoOwn s9, ⟨_, _, _, _, _, rfl, rfl, by omega, h8, h9⟩, fun j x r hx hW => ?_, fun r hW => ?_⟩
    · obtain ⟨L, s6, s7, s8, s9, rfl, rfl, hj, h8, h9⟩ := hW
      obtain ⟨hj1, rfl⟩ := rangeI_get hx
      have hj2 : j ≤ i := by omega
      obtain ⟨rj, hrj⟩ : ∃ rj, rows[j]? = some rj := ⟨_, List.getElem?_eq_getElem (by omega)⟩
      have lj := hs.2 rj (List.mem_of_getElem? hrj)
      have zj := hz rj (List.mem_of_getElem? hrj)
      refine ⟨_, seqB_at (rb := false) (show (0 + (j : Nat) : Int) = (j : Nat) by omega) hrj, nd0, false, false, ri, rj, b, b, rfl, fun a ha => zi.mem ha, fun a ha => zj.mem ha, by omega, by omega, by omega, v_L1_shares_of h8 h9 hs m4 n4 hd hd2 hz hb hj2 him hri hrj fun s8 s9 h8 h9 => ⟨by rw [List.length_map, lamR_len]; omega, _, _, _, _, _, rfl, ?_, by omega, h8, h9⟩⟩
      rw [lamR_succ, List.map_append]; rfl
    · obtain ⟨L, s6, s7, s8, s9, rfl, rfl, hj, h8, h9⟩ := hW
      rw [rangeI_len] at hj ⊢
      have e : ((i : Int) + 1).toNat = i + 1 := by omega
      rw [e]
      exact q _ _ _ _ h8 h9
  · refine ⟨by omega, by omega, fun j r => ∃ L s6 s7 s8 s9, r = [some (.d (matB true rows)), some (.own pq ((spL rows (i + 1)).map fun x => T.d (.int x))), some (.own ps (shT rows f i)), some (.d (.int (i : Nat))), some (.d (seqB true ri)), some (.own p5 L), s6, s7, s8, s9] ∧ L = ((lamR rows i j).map fun x => T.d (.int x)) ∧ j ≤ i + 1 ∧ NoOwn s8 ∧ NoOwn s9, ⟨_, _, _, _, _, rfl, rfl, by omega, h8, h9⟩, fun j x r hx hW => ?_, fun r hW => ?_⟩
    · obtain ⟨L, s6, s7, s8, s9, rfl, rfl, hj, h8, h9⟩ := hW
      obtain ⟨hj1, rfl⟩ := rangeI_get hx
      have hj2 : j ≤ i := by omega
      obtain ⟨rj, hrj⟩ : ∃ rj, rows[j]? = some rj := ⟨_, List.getElem?_eq_getElem (by omega)⟩
      have lj := hs.2 rj (List.mem_of_getElem? hrj)
      have zj := hz rj (List.mem_of_getElem? hrj)
      refine ⟨_, seqB_at (rb := true) (show (0 + (j : Nat) : Int) = (j : Nat) by omega) hrj, nd0, true, true, ri, rj, b, b, rfl, fun a ha => zi.mem ha, fun a ha => zj.mem ha, by omega, by omega, by omega, v_L1_shares_of h8 h9 hs m4 n4 hd hd2 hz hb hj2 him hri hrj fun s8 s9 h8 h9 => ⟨by rw [List.length_map, lamR_len]; omega, _, _, _, _, _, rfl, ?_, by omega, h8, h9⟩⟩
      rw [lamR_succ, List.map_append]; rfl
    · obtain ⟨L, s6, s7, s8, s9, rfl, rfl, hj, h8, h9⟩ := hW
      rw [rangeI_len] at hj ⊢
      have e : ((i : Int) + 1).toNat = i + 1 := by omega
      rw [e]
      exact q _ _ _ _ h8 h9
theorem lam_self {rows : Mat} {i : Nat} {r : List Int} (h : rows[i]? = some r) : lam rows i i = Dd rows (i + 1) := by rw [lam_at h h, Dd_succ h]
theorem shT_succ (rows : Mat) (f : Nat → Addr) (i : Nat) (p : Addr) : shT rows f i ++ [T.own p ((lamR rows i (i + 1)).map fun x => T.d (.int x))] = shT rows (fun k => if k = i then p else f k) (i + 1) := by
  unfold shT
  rw [List.range_succ, List.map_append]
  congr 1
  · refine List.map_congr_left fun k hk => ?_
    have : k < i := List.mem_range.mp hk
    show _ = T.own (if k = i then p else f k) _
    rw [if_neg (by omega)]
  · show _ = [T.own (if i = i then p else f i) _]
    rw [if_pos rfl]
theorem v_shares_of (ts Q E) (h : sp_shares_of ts Q E) : body_shares_of { nx := fun r => finOk ts r ∧ Q (.d .none) (finF ts r), rt := fun x r => finOk ts r ∧ Q x (finF ts r) } (start3 N_shares_of ts) := by
  obtain ⟨rb, rows, m, n, b, rfl, hs, m4, n4, hd, hd2, hz, hb, q⟩ := h
  have hb2 : 1000 < sizeLine := by decide
  have hl := hs.1
  cases rb
  · refine ⟨sz 1, fun pq => ⟨sz 0, fun ps => ⟨rows.map (seqB false), rfl, fun i r => ∃ A S s3 s4 s6 s7 s8 s9, r = [some (.d (matB false rows)), some (.own pq A), some (.own ps S), s3, s4, none, s6, s7, s8, s9] ∧ A = (spL rows (i + 1)).map (fun x => T.d (.int x)) ∧ (∃ f, S = shT rows f i) ∧ i ≤ m ∧ NoOwn s8 ∧ NoOwn s9, ⟨_, _, _, _, _, _, _, _, rfl, rfl, ⟨fun _ => 0, rfl⟩, Nat.zero_le _, fun _ h => h, fun _ h => h⟩, fun i x r hx hW => ?_, fun r hW => ?_⟩⟩⟩
    · obtain ⟨A, S, s3, s4, s6, s7, s8, s9, rfl, rfl, ⟨f, rfl⟩, hi, h8, h9⟩ := hW
      obtain ⟨ri, hri, rfl⟩ := enum_get hx
      have him : i < m := by have := (List.getElem?_eq_some_iff.mp hri).1; omega
      refine ⟨rfl, sz 0, fun p5 => v_L2_shares_of (rb := false) h8 h9 hs m4 n4 hd hd2 hz hb him hri fun s6 s7 s8 s9 h8 h9 => ⟨rfl, _, lamO_get (Nat.lt_succ_self i), by rw [List.length_map, spL_len]; omega, by rw [shT_len]; omega, _, _, _, _, _, _, _, _, rfl, ?_, ⟨_, shT_succ rows f i p5⟩, by omega, h8, h9⟩⟩
      rw [spL_succ rows (i + 1), List.map_append, lam_self hri]; rfl
    · obtain ⟨A, S, s3, s4, s6, s7, s8, s9, rfl, rfl, ⟨f, rfl⟩, hi, h8, h9⟩ := hW
      rw [enumD_len, List.length_map, hl]
      exact ⟨sz 2, ⟨⟩, q ps pq f⟩
  · refine ⟨sz 1, fun pq => ⟨sz 0, fun ps => ⟨rows.map (seqB true), rfl, fun i r => ∃ A S s3 s4 s6 s7 s8 s9, r = [some (.d (matB true rows)), some (.own pq A), some (.own ps S), s3, s4, none, s6, s7, s8, s9] ∧ A = (spL rows (i + 1)).map (fun x => T.d (.int x)) ∧ (∃ f, S = shT rows f i) ∧ i ≤ m ∧ NoOwn s8 ∧ NoOwn s9, ⟨_, _, _, _, _, _, _, _, rfl, rfl, ⟨fun _ => 0, rfl⟩, Nat.zero_le _, fun _ h => h, fun _ h => h⟩, fun i x r hx hW => ?_, fun r hW => ?_⟩⟩⟩
    · obtain ⟨A, S, s3, s4, s6, s7, s8, s9, rfl, rfl, ⟨f, rfl⟩, hi, h8, h9⟩ := hW
      obtain ⟨ri, hri, rfl⟩ := enum_get hx
      have him : i < m := by have := (List.getElem?_eq_some_iff.mp hri).1; omega
      refine ⟨rfl, sz 0, fun p5 => v_L2_shares_of (rb := true) h8 h9 hs m4 n4 hd hd2 hz hb him hri fun s6 s7 s8 s9 h8 h9 => ⟨rfl, _, lamO_get (Nat.lt_succ_self i), by rw [List.length_map, spL_len]; omega, by rw [shT_len]; omega, _, _, _, _, _, _, _, _, rfl, ?_, ⟨_, shT_succ rows f i p5⟩, by omega, h8, h9⟩⟩
      rw [spL_succ rows (i + 1), List.map_append, lam_self hri]; rfl
    · obtain ⟨A, S, s3, s4, s6, s7, s8, s9, rfl, rfl, ⟨f, rfl⟩, hi, h8, h9⟩ := hW
      rw [enumD_len, List.length_map, hl]
      exact ⟨sz 2, ⟨⟩, q ps pq f⟩
end L3
set_option pp.maxSteps 600
namespace L3
open PySem PySem.Spec PyProof.Rows L2
local macro_rules | `(tactic| wtm_at "sh") => `(tactic| conv => whnf)
theorem fz_shT (p : Addr) (rows : Mat) (f : Nat → Addr) (m : Nat) : fz (T.own p (shT rows f m)) = .list ((List.range m).map fun i => rowD (lamR rows i (i + 1))) := by
  show PyData.list (fzs (shT rows f m)) = _
  rw [fzs_shT]
theorem shD_get {rows : Mat} {m k : Nat} {i : Int} (e : i = (k : Nat)) (h : k < m) : getI ((List.range m).map fun i => rowD (lamR rows i (i + 1))) i = some (rowD (lamR rows k (k + 1))) := by
  refine getI_at e ?_
  rw [List.getElem?_map, List.getElem?_range h]; rfl
theorem spD_get {rows : Mat} {k j : Nat} {i : Int} (e : i = (j : Nat)) (h : j < k) : getI ((spL rows k).map PyData.int) i = some (.int (Dd rows j)) := by
  refine getI_at e ?_
  unfold spL
  rw [List.getElem?_map, List.getElem?_map, List.getElem?_range h]; rfl
theorem lamD_get {rows : Mat} {i k j : Nat} {x : Int} (e : x = (j : Nat)) (h : j < k) : getI ((lamR rows i k).map PyData.int) x = some (.int (lam rows i j)) := by subst e; exact lamR_get h
theorem lam_Sz {m n b i j : Nat} {rows : Mat} (m4 : m ≤ 4) (n4 : n ≤ 4) (hs : Sq m n rows) (hz : ∀ r ∈ rows, SzL b r) (hi : i < m) (hj : j < m) : Sz (8 * b + 21) (lam rows i j) := by
  have hl := hs.1
  obtain ⟨r, hr⟩ : ∃ r, rows[i]? = some r := ⟨_, List.getElem?_eq_getElem (by omega)⟩
  obtain ⟨s, hs2⟩ : ∃ r, rows[j]? = some r := ⟨_, List.getElem?_eq_getElem (by omega)⟩
  rw [lam_at hr hs2]
  exact Mu_Sz n4 hs (by omega) (by omega) hz (hs.2 s (List.mem_of_getElem? hs2)) (hz s (List.mem_of_getElem? hs2)) (hz r (List.mem_of_getElem? hr))
theorem Dd_Sz {m n b a : Nat} {rows : Mat} (m4 : m ≤ 4) (n4 : n ≤ 4) (hs : Sq m n rows) (hz : ∀ r ∈ rows, SzL b r) (ha : a ≤ m) : Sz (8 * b + 21) (Dd rows a) := by
  match a with
  | 0 => rw [Dd_zero]; exact (show Sz 1 1 by unfold Sz; decide).mono (by omega)
  | a + 1 =>
    have hl := hs.1
    obtain ⟨r, hr⟩ : ∃ r, rows[a]? = some r := ⟨_, List.getElem?_eq_getElem (by omega)⟩
    rw [← lam_self hr]
    exact lam_Sz m4 n4 hs hz (by omega) (by omega)
/-- what shares_of asks of rows -/
def ShOk (m n b : Nat) (rows : Mat) : Prop := Sq m n rows ∧ m ≤ 4 ∧ n ≤ 4 ∧ (∀ a, a < m → 0 < Dd rows a) ∧ (∀ a, a < m → Sz 8999 (Dd rows a)) ∧ (∀ r ∈ rows, SzL b r) ∧ b ≤ 60000
def N_stands_behind : List Str := ["rows", "at", "shares", "spans", "part"]
def body_stands_behind : TS3 := (xSeq (xAsg (xCall sp_shares_of xNoE (xArg (xView 0) xANil)) (xGTup 2 (xGCons (xGName 2) (xGCons (xGName 3) xGNil))))
  (xFzS 3 (xFzS 2 (xSeq (xAsg (xD (x2 kAdd (x2 kMul (x2 cIx (xView 3) (x2 kAdd (xView 1) (xC (.int 1)))) (x2 cIx (xView 3) (x2 kSub (xView 1) (xC (.int 1))))) (x2 kMul (x2 cIx (x2 cIx (xView 2) (xView 1)) (x2 kSub (xView 1) (xC (.int 1)))) (x2 cIx (x2 cIx (xView 2) (xView 1)) (x2 kSub (xView 1) (xC (.int 1))))))) (xGName 4))
  (xRet (xD (x2 kGe (x2 kMul (xC (.int 4)) (xView 4)) (x2 kMul (x2 kMul (xC (.int 3)) (x2 cIx (xView 3) (xView 1))) (x2 cIx (xView 3) (xView 1))))))))))
/-- whether the right part of the row behind the k-th one is long enough -/
def standB (rows : Mat) (k : Nat) : Bool := decide (4 * (Dd rows (k + 2) * Dd rows k + lam rows (k + 1) k * lam rows (k + 1) k) ≥ 3 * Dd rows (k + 1) * Dd rows (k + 1))
def sp_stands_behind : Sp3 := fun ts Q _ => ∃ rb rows m n b k at_, ts = [.d (matB rb rows), .d (.int at_)] ∧ at_ = ((k + 1 : Nat) : Int) ∧ ShOk m n b rows ∧ k + 1 < m ∧ Q (.d (.bool (standB rows k))) ts
theorem v_stands_behind (ts Q E) (h : sp_stands_behind ts Q E) : body_stands_behind { nx := fun r => finOk ts r ∧ Q (.d .none) (finF ts r), rt := fun x r => finOk ts r ∧ Q x (finF ts r) } (start3 N_stands_behind ts) := by
  obtain ⟨rb, rows, m, n, b, k, at_, rfl, rfl, ⟨hs, m4, n4, hd, hd2, hz, hb⟩, hk, q⟩ := h
  refine ⟨nd0, rb, rows, m, n, b, rfl, hs, m4, n4, hd, hd2, hz, hb, fun ps pq f => ⟨rfl, nvs_map _ _, nvs_shT _ _ _, ?_⟩⟩
  rw [fz_shT, fz_own pq PyData.int (spL rows (m + 1))]
  have sD : ∀ a, a ≤ m → Sz (8 * b + 21) (Dd rows a) := fun a ha => Dd_Sz m4 n4 hs hz ha
  have sL := lam_Sz m4 n4 hs hz (i := k + 1) (j := k) hk (by omega)
  have e1 : ((k + 1 : Nat) : Int) + 1 = ((k + 2 : Nat) : Int) := by omega
  have e2 : ((k + 1 : Nat) : Int) - 1 = ((k : Nat) : Int) := by omega
  refine ⟨_, spD_get e1 (by omega), _, spD_get e2 (by omega), mulOk (sD _ (by omega)) (sD _ (by omega)) (by omega), _, shD_get rfl hk, _, lamD_get e2 (by omega), _, shD_get rfl hk, _, lamD_get e2 (by omega), mulOk sL sL (by omega), mulOkL (by decide) (by decide), _, spD_get rfl (by omega), mulOkL (by decide) (by decide), _, spD_get rfl (by omega), mulOk (n := 8 * b + 24) (m := 8 * b + 21) ?_ (sD _ (by omega)) (by omega), ⟨⟩, q⟩
  exact ((show Sz 3 3 by unfold Sz; decide).mul (sD (k + 1) (by omega))).mono (by omega)
theorem mu_take {rows : Mat} {k a : Nat} {x y z : List Int} (h : a ≤ k) : Mu (rows.set k z) a x y = Mu rows a x y := by
  unfold Mu
  rw [List.take_set, List.set_eq_of_length_le (by rw [List.length_take]; omega)]
/-- rows that tell the same lattice -/
structure Same (n : Nat) (rows0 rows : Mat) : Prop where
  sq : Sq n n rows
  dt : (detN n rows).natAbs = (detN n rows0).natAbs
  sp : ∀ r ∈ rows, Span n rows0 r
  ps : ∀ r ∈ rows0, Span n rows r
theorem Same.refl {n : Nat} {rows : Mat} (h : Sq n n rows) : Same n rows rows := ⟨h, rfl, fun r hr => .of_mem h hr, fun r hr => .of_mem h hr⟩
theorem Same.trans {n : Nat} {rows0 rows1 rows2 : Mat} (h0 : Sq n n rows0) (h : Same n rows0 rows1) (k : Same n rows1 rows2) : Same n rows0 rows2 :=
  ⟨k.sq, k.dt.trans h.dt, fun r hr => Span.trans h0 h.sq h.sp (k.sp r hr), fun r hr => Span.trans k.sq h.sq k.ps (h.ps r hr)⟩
theorem Same.add {n a k : Nat} {rows : Mat} {U V : List Int} (m : Int) (h4 : n ≤ 4) (h : Sq n n rows) (hk : a ≠ k) (hU : rows[a]? = some U) (hV : rows[k]? = some V) : Same n rows (rows.set a (vAdd U (-m) V)) := by
  have lU := h.2 U (List.mem_of_getElem? hU)
  have lV := h.2 V (List.mem_of_getElem? hV)
  have al := (List.getElem?_eq_some_iff.mp hU).1
  have lv : (vAdd U (-m) V).length = n := vAdd_len lU lV
  have sq' : Sq n n (rows.set a (vAdd U (-m) V)) := h.set lv
  refine ⟨sq', by rw [det_add (-m) h4 h hk hU hV], fun r hr => ?_, fun s hs => ?_⟩
  · rcases List.mem_or_eq_of_mem_set hr with hr | rfl
    · exact .of_mem h hr
    · exact (Span.of_mem h (List.mem_of_getElem? hU)).vadd h _ (.of_mem h (List.mem_of_getElem? hV))
  · obtain ⟨i, hi⟩ := List.getElem?_of_mem hs
    by_cases h1 : i = a
    · subst h1
      rw [hU] at hi
      cases hi
      have mV : V ∈ rows.set i (vAdd U (-m) V) := List.mem_of_getElem? (i := k) (by rw [List.getElem?_set_ne hk]; exact hV)
      have mW : vAdd U (-m) V ∈ rows.set i (vAdd U (-m) V) := List.mem_of_getElem? (i := i) (by rw [List.getElem?_set_self al])
      have z := (Span.of_mem sq' mW).vadd sq' m (.of_mem sq' mV)
      rw [vAdd_back (by omega)] at z
      exact z
    · exact .of_mem sq' (List.mem_of_getElem? (i := i) (by rw [List.getElem?_set_ne (Ne.symm h1)]; exact hi))
theorem Same.swap {n i j : Nat} {rows : Mat} {U V : List Int} (h4 : n ≤ 4) (h : Sq n n rows) (hij : i ≠ j) (hU : rows[i]? = some U) (hV : rows[j]? = some V) : Same n rows ((rows.set i V).set j U) := by
  have lU := h.2 U (List.mem_of_getElem? hU)
  have lV := h.2 V (List.mem_of_getElem? hV)
  have il := (List.getElem?_eq_some_iff.mp hU).1
  have jl := (List.getElem?_eq_some_iff.mp hV).1
  have sq' : Sq n n ((rows.set i V).set j U) := (h.set lV).set lU
  refine ⟨sq', by rw [det_swap h4 h hij hU hV, Int.natAbs_neg], fun r hr => ?_, fun s hs => ?_⟩
  · rcases mem_set2 hr with hr | rfl | rfl
    · exact .of_mem h hr
    · exact .of_mem h (List.mem_of_getElem? hV)
    · exact .of_mem h (List.mem_of_getElem? hU)
  · obtain ⟨a, ha⟩ := List.getElem?_of_mem hs
    have mV : V ∈ (rows.set i V).set j U := List.mem_of_getElem? (i := i) (by rw [List.getElem?_set_ne (Ne.symm hij), List.getElem?_set_self il])
    have mU : U ∈ (rows.set i V).set j U := List.mem_of_getElem? (i := j) (by rw [List.getElem?_set_self (by rw [List.length_set]; exact jl)])
    by_cases h1 : a = i
    · subst h1; rw [hU] at ha; cases ha; exact .of_mem sq' mU
    · by_cases h2 : a = j
      · subst h2; rw [hV] at ha; cases ha; exact .of_mem sq' mV
      · exact .of_mem sq' (List.mem_of_getElem? (i := a) (by rw [List.getElem?_set_ne (Ne.symm h2), List.getElem?_set_ne (Ne.symm h1)]; exact ha))
/-- the shares of a row that another one ahead is taken off from -/
theorem lam_cut {n k p j : Nat} {rows : Mat} {U V : List Int} {m : Int} (h4 : n ≤ 4) (h : Sq n n rows) (hp : p < k) (hj : j < k) (hU : rows[k]? = some U) (hV : rows[p]? = some V) : lam (rows.set k (vAdd U (-m) V)) k j = lam rows k j - m * lam rows p j := by
  have hl := h.1
  have kl := (List.getElem?_eq_some_iff.mp hU).1
  obtain ⟨R, hR⟩ : ∃ R, rows[j]? = some R := ⟨_, List.getElem?_eq_getElem (by omega)⟩
  have e1 : (rows.set k (vAdd U (-m) V))[k]? = some (vAdd U (-m) V) := by rw [List.getElem?_set_self kl]
  have e2 : (rows.set k (vAdd U (-m) V))[j]? = some R := by rw [List.getElem?_set_ne (by omega)]; exact hR
  rw [lam_at e1 e2, lam_at hU hR, lam_at hV hR, mu_take (by omega), Mu_linR (by omega) (by omega) (by rw [h.2 U (List.mem_of_getElem? hU), h.2 V (List.mem_of_getElem? hV)])]
  rw [Int.neg_mul]; omega
theorem lam_zero {n i j : Nat} {rows : Mat} (h4 : n ≤ 4) (h : Sq n n rows) (hij : i < j) (hj : j < n) : lam rows i j = 0 := by
  have hl := h.1
  obtain ⟨R, hR⟩ : ∃ R, rows[i]? = some R := ⟨_, List.getElem?_eq_getElem (by omega)⟩
  obtain ⟨S, hS⟩ : ∃ S, rows[j]? = some S := ⟨_, List.getElem?_eq_getElem (by omega)⟩
  rw [lam_at hR hS]
  exact Mu_altR (by omega) (by omega) hij hR
theorem half_cut {l d : Int} (hd : 0 < d) : 2 * (l - (2 * l + d) / (2 * d) * d).natAbs ≤ d.natAbs := by
  have h1 := Int.mul_ediv_add_emod (2 * l + d) (2 * d)
  have h2 := Int.emod_nonneg (2 * l + d) (show 2 * d ≠ 0 by omega)
  have h3 := Int.emod_lt_of_pos (2 * l + d) (show 0 < 2 * d by omega)
  have e : 2 * d * ((2 * l + d) / (2 * d)) = 2 * ((2 * l + d) / (2 * d) * d) := by grind
  omega
theorem det_last {b c : Nat} : ∀ (n : Nat) (l : Mat) (z : List Int), n ≤ 3 → l.length = n → (∀ r ∈ l, r.length = n + 1) → (∀ r ∈ l, SzL b r) → z.length = n + 1 → SzL c z → (detN (n + 1) (l ++ [z])).natAbs ≤ 2 ^ (n * (b + 2)) * 2 ^ c
  | 0, [], z, _, _, _, _, hl, hz => by
    have : detN (0 + 1) ([] ++ [z]) = z.getD 0 0 := by
      show sumR 1 _ = _
      simp [sumR, sg, detN]
    rw [this]
    have h2 := hz 0
    unfold Sz at h2
    rw [Nat.zero_mul, Nat.pow_zero, Nat.one_mul]
    omega
  | n + 1, r :: l, z, hn, hl, hw, hz, hl2, hz2 => by
    show (sumR (n + 2) fun k => r.getD k 0 * sg k * detN (n + 1) (minor k (l ++ [z]))).natAbs ≤ _
    have := sumR_sz (m := n + 2) (X := 2 ^ b * (2 ^ (n * (b + 2)) * 2 ^ c)) (f := fun k => r.getD k 0 * sg k * detN (n + 1) (minor k (l ++ [z]))) fun k hk => by
      have e1 := hz r (by simp) k
      have em : minor k (l ++ [z]) = minor k l ++ [z.eraseIdx k] := by unfold minor; rw [List.map_append]; rfl
      have e2 := det_last n (minor k l) (z.eraseIdx k) (by omega) (by unfold minor; rw [List.length_map]; simpa using hl) (fun x hx => by
        obtain ⟨y, hy, rfl⟩ := List.mem_map.mp hx
        rw [List.length_eraseIdx, hw y (List.mem_cons_of_mem _ hy), if_pos hk]; rfl) (fun x hx => by
        obtain ⟨y, hy, rfl⟩ := List.mem_map.mp hx
        exact (hz y (List.mem_cons_of_mem _ hy)).erase) (by rw [List.length_eraseIdx, hl2, if_pos hk]; rfl) hz2.erase
      rw [em, Int.natAbs_mul, Int.natAbs_mul, sg_abs, Nat.mul_one]
      exact Nat.mul_le_mul (Nat.le_of_lt e1) e2
    refine Nat.le_trans this ?_
    have e3 : 2 ^ ((n + 1) * (b + 2)) * 2 ^ c = 4 * (2 ^ b * (2 ^ (n * (b + 2)) * 2 ^ c)) := by
      rw [Nat.add_mul, Nat.one_mul, Nat.pow_add, Nat.pow_add]
      grind
    rw [e3]
    exact Nat.mul_le_mul_right _ (by omega)
  | 0, _ :: _, _, _, h, _, _, _, _ => by simp at h
  | _ + 1, [], _, _, h, _, _, _, _ => by simp at h
theorem Mu_Sz2 {m n b c a : Nat} {rows : Mat} {x y : List Int} (h4 : n ≤ 4) (h : Sq m n rows) (ha : a ≤ 3) (ham : a ≤ m) (hz : ∀ r ∈ rows.take a, SzL b r) (hx : x.length = n) (hy : y.length = n) (zx : SzL b x) (zy : SzL c y) : Sz (7 * b + c + 19) (Mu rows a x y) := by
  have hl := h.1
  have l1 := take_len (rows := rows) (a := a) (by omega)
  have z2 : ∀ v ∈ rows.take a ++ [x], SzL b v ∧ v.length = n := fun v hv => by
    rcases List.mem_append.mp hv with q | q
    · exact ⟨hz v q, h.2 v (List.mem_of_mem_take q)⟩
    · rw [List.mem_singleton.mp q]; exact ⟨zx, hx⟩
  have eg : gm (rows.take a ++ [y]) (rows.take a ++ [x]) = gm (rows.take a) (rows.take a ++ [x]) ++ [pr y (rows.take a ++ [x])] := by unfold gm; rw [List.map_append]; rfl
  have zp : SzL (b + c + 3) (pr y (rows.take a ++ [x])) := SzL.of fun v hv => by
    unfold pr at hv
    obtain ⟨w, hw, rfl⟩ := List.mem_map.mp hv
    have q := dot_sz (n := c) (k := b) y w (fun u hu => zy.mem hu) fun u hu => (z2 w hw).1.mem hu
    rw [hy] at q
    have h2 : n * 2 ^ (c + b) ≤ 4 * 2 ^ (c + b) := Nat.mul_le_mul_right _ h4
    unfold Sz
    rw [show b + c + 3 = (c + b) + 3 by omega, Nat.pow_add]
    have : 0 < 2 ^ (c + b) := Nat.pow_pos (by decide)
    omega
  have := det_last (b := 2 * b + 3) (c := b + c + 3) a (gm (rows.take a) (rows.take a ++ [x])) (pr y (rows.take a ++ [x])) ha (by unfold gm; rw [List.length_map]; exact l1) (fun r hr => by
    unfold gm at hr
    obtain ⟨v, hv, rfl⟩ := List.mem_map.mp hr
    rw [pr_len]; exact one_len l1) (fun r hr => by
    unfold gm at hr
    obtain ⟨v, hv, rfl⟩ := List.mem_map.mp hr
    exact pr_Sz h4 (h.2 v (List.mem_of_mem_take hv)) (hz v hv) fun w hw => (z2 w hw).1) (by rw [pr_len]; exact one_len l1) zp
  rw [Mu_symm ha (by omega)]
  unfold Mu
  rw [eg]
  unfold Sz
  refine Nat.lt_of_le_of_lt this ?_
  rw [← Nat.pow_add]
  have e : a * (2 * b + 3 + 2) ≤ 3 * (2 * b + 3 + 2) := Nat.mul_le_mul_right _ ha
  exact Nat.pow_lt_pow_right (by decide) (by omega)
def L1_cut_down : TS3 := (xFor (xR3 (x2 kSub (xView 1) (xC (.int 1))) (xNeg (xC (.int 1))) (xNeg (xC (.int 1)))) (xGName 3) (xSeq (xAsg (xBor (xCall sp_shares_of xNoE (xArg (xView 2) xANil))) (xGTup 2 (xGCons (xGName 4) (xGCons (xGName 5) xGNil))))
  (xFzS 5 (xFzS 4 (xSeq (xAsg (xD (x2 kDiv (x2 kAdd (x2 kMul (xC (.int 2)) (x2 cIx (x2 cIx (xView 4) (xView 1)) (xView 3))) (x2 cIx (xView 5) (x2 kAdd (xView 3) (xC (.int 1))))) (x2 kMul (xC (.int 2)) (x2 cIx (xView 5) (x2 kAdd (xView 3) (xC (.int 1))))))) (xGName 6))
  (xAsg (xD (xFz (xCall sp_taken_off xNoE (xArg (x2 cIx (xView 2) (xView 1)) (xArg (xView 6) (xArg (x2 cIx (xView 2) (xView 3)) xANil)))))) (xGSub 2 (xView 1))))))))
def N_cut_down : List Str := ["rows", "at", "found", "place", "shares", "spans", "many"]
def body_cut_down : TS3 := (xSeq (xAsg (x1 cLst (xView 0)) (xGName 2))
  (xSeq L1_cut_down
  (xRet (xMove 2))))
/-- rows with the k-th one cut down, so far as the place j -/
structure CutAt (n B k t : Nat) (rows rows' : Mat) : Prop where
  same : Same n rows rows'
  keep : ∀ i, i ≠ k → rows'[i]? = rows[i]?
  dd : ∀ a, a ≤ n → Dd rows' a = Dd rows a
  sh : ∀ j, j < k → k ≤ j + t → 2 * (lam rows' k j).natAbs ≤ (Dd rows (j + 1)).natAbs
  sz : ∀ r, rows'[k]? = some r → SzL (B + t * (9 * B + 26)) r
def sp_cut_down : Sp3 := fun ts Q _ => ∃ p L rows n k B at_, ts = [.own p L, .d (.int at_)] ∧ L = (rows.map fun r => T.d (rowD r)) ∧ at_ = (k : Nat) ∧ Sq n n rows ∧ n ≤ 4 ∧ k < n ∧ (∀ a, a ≤ n → 0 < Dd rows a) ∧ (∀ a, a < n → Sz 8990 (Dd rows a)) ∧ (∀ r ∈ rows, SzL B r) ∧ B ≤ 2100 ∧ ∀ p' rows', CutAt n B k k rows rows' → Q (matO p' rows') ts
theorem CutAt.szs {n B k t : Nat} {rows rows' : Mat} (h : CutAt n B k t rows rows') (hs : Sq n n rows) (hz : ∀ r ∈ rows, SzL B r) : ∀ r ∈ rows', SzL (B + t * (9 * B + 26)) r := fun r hr => by
  obtain ⟨i, hi⟩ := List.getElem?_of_mem hr
  by_cases e : i = k
  · subst e; exact h.sz r hi
  · rw [h.keep i e] at hi
    exact (hz r (List.mem_of_getElem? hi)).mono (by omega)
theorem CutAt.step {n B k t p : Nat} {rows rows' : Mat} {U V : List Int} (h4 : n ≤ 4) (hs : Sq n n rows) (hk : k < n) (hd : ∀ a, a ≤ n → 0 < Dd rows a) (hz : ∀ r ∈ rows, SzL B r) (h : CutAt n B k t rows rows') (hp : p + t + 1 = k) (hU : rows'[k]? = some U) (hV : rows'[p]? = some V) :
    Sz (7 * B + (B + t * (9 * B + 26)) + 22) ((2 * lam rows' k p + Dd rows (p + 1)) / (2 * Dd rows (p + 1))) ∧ SzL B V ∧ CutAt n B k (t + 1) rows (rows'.set k (vAdd U (-((2 * lam rows' k p + Dd rows (p + 1)) / (2 * Dd rows (p + 1)))) V)) := by
  have sq' := h.same.sq
  have hl' := sq'.1
  have lU := sq'.2 U (List.mem_of_getElem? hU)
  have lV := sq'.2 V (List.mem_of_getElem? hV)
  have zU := h.sz U hU
  have hV0 : rows[p]? = some V := by rw [← h.keep p (by omega)]; exact hV
  have zV := hz V (List.mem_of_getElem? hV0)
  have d0 := hd (p + 1) (by omega)
  have zl : Sz (7 * B + (B + t * (9 * B + 26)) + 19) (lam rows' k p) := by
    rw [lam_at hU hV]
    refine Mu_Sz2 h4 sq' (by omega) (by omega) (fun r hr => ?_) lV lU zV zU
    obtain ⟨i, hi⟩ := List.getElem?_of_mem hr
    have hip : i < p := by have := (List.getElem?_eq_some_iff.mp hi).1; rw [List.length_take] at this; omega
    rw [List.getElem?_take, if_pos hip, h.keep i (by omega)] at hi
    exact hz r (List.mem_of_getElem? hi)
  have zd : Sz (8 * B + 21) (Dd rows (p + 1)) := Dd_Sz (by omega) h4 hs hz (by omega)
  have zm : Sz (7 * B + (B + t * (9 * B + 26)) + 22) ((2 * lam rows' k p + Dd rows (p + 1)) / (2 * Dd rows (p + 1))) := by
    refine Sz.le (j := 2 * lam rows' k p + Dd rows (p + 1)) ?_ (by rw [← Int.fdiv_eq_ediv_of_nonneg _ (by omega)]; exact fdiv_le)
    have s1 : Sz (2 + (7 * B + (B + t * (9 * B + 26)) + 19)) (2 * lam rows' k p) := (show Sz 2 2 by unfold Sz; decide).mul zl
    exact ((s1.mono (m := 7 * B + (B + t * (9 * B + 26)) + 21) (by omega)).add (zd.mono (by omega))).mono (by omega)
  refine ⟨zm, zV, ?_⟩
  have sa : Same n rows' _ := Same.add ((2 * lam rows' k p + Dd rows (p + 1)) / (2 * Dd rows (p + 1))) h4 sq' (show k ≠ p by omega) hU hV
  have lc : ∀ j, j < k → lam (rows'.set k (vAdd U (-((2 * lam rows' k p + Dd rows (p + 1)) / (2 * Dd rows (p + 1)))) V)) k j = lam rows' k j - (2 * lam rows' k p + Dd rows (p + 1)) / (2 * Dd rows (p + 1)) * lam rows' p j := fun j hj => lam_cut h4 sq' (by omega) hj hU hV
  refine ⟨h.same.trans hs sa, fun i hi => by rw [List.getElem?_set_ne (by omega)]; exact h.keep i hi, fun a ha => by rw [Dd_add h4 sq' (by omega) hU hV ha]; exact h.dd a ha, fun j hj hjt => ?_, fun r hr => ?_⟩
  · rw [lc j hj]
    by_cases e : j = p
    · subst e
      rw [lam_self hV, h.dd _ (by omega)]
      exact half_cut d0
    · rw [lam_zero h4 sq' (show p < j by omega) (by omega), Int.mul_zero, Int.sub_zero]
      exact h.sh j hj (by omega)
  · rw [List.getElem?_set_self (by omega)] at hr
    cases hr
    intro c
    rw [vAdd_getD (by omega)]
    have s1 := zm.neg.mul (zV c)
    exact (((zU c).mono (show B + t * (9 * B + 26) ≤ 7 * B + (B + t * (9 * B + 26)) + 22 + B by omega)).add s1).mono (by rw [Nat.add_mul]; omega)
theorem lfts_mapT {α : Type} (g : α → T) (l : List α) (h : ∀ x ∈ l, lft (g x) = true) : lfts (l.map g) = true := by
  induction l with
  | nil => rfl
  | cons x l ih =>
    show (lft (g x) && lfts (l.map g)) = true
    rw [h x (by simp), ih fun y hy => h y (List.mem_cons_of_mem _ hy)]; rfl
theorem lft_ints (l : List Int) : lfts (l.map fun x => T.d (.int x)) = true := lfts_mapT _ _ fun _ _ => rfl
theorem lft_sh (ps pq : Addr) (rows : Mat) (f : Nat → Addr) (m k : Nat) : lft (.tp [.own ps (shT rows f m), .own pq ((spL rows k).map fun x => T.d (.int x))]) = true := by
  show (lfts (shT rows f m) && (lfts ((spL rows k).map fun x => T.d (.int x)) && true)) = true
  rw [lft_ints]
  unfold shT
  rw [lfts_mapT (fun i => T.own (f i) ((lamR rows i (i + 1)).map fun x => T.d (.int x))) _ fun i _ => lft_ints _]; rfl
theorem v_cut_down (ts Q E) (h : sp_cut_down ts Q E) : body_cut_down { nx := fun r => finOk ts r ∧ Q (.d .none) (finF ts r), rt := fun x r => finOk ts r ∧ Q x (finF ts r) } (start3 N_cut_down ts) := by
  obtain ⟨p, L, rows, n, k, B, at_, rfl, rfl, rfl, hs, h4, hk, hd, hd2, hz, hB, q⟩ := h
  have hb2 : 1000 < sizeLine := by decide
  have hl := hs.1
  refine ⟨alld_map _ _, fun p2 => ?_⟩
  refine ⟨rfl, by omega, fun t r => ∃ L2 s3 s4 s5 s6, r = [some (matO p rows), some (.d (.int (k : Nat))), some (.own p2 L2), s3, s4, s5, s6] ∧ (∃ rows', L2 = rows'.map (fun r => T.d (rowD r)) ∧ CutAt n B k t rows rows') ∧ t ≤ k ∧ NoOwn s3 ∧ NoOwn s4 ∧ NoOwn s5 ∧ NoOwn s6, ⟨_, _, _, _, _, rfl, ⟨rows, rfl, ⟨.refl hs, fun _ _ => rfl, fun _ _ => rfl, fun j hj hjt => by omega, fun r hr => (hz r (List.mem_of_getElem? hr)).mono (by omega)⟩⟩, by omega, fun _ h => h, fun _ h => h, fun _ h => h, fun _ h => h⟩, fun t x r hx hW => ?_, fun r hW => ?_⟩
  · obtain ⟨L2, s3, s4, s5, s6, rfl, ⟨rows', rfl, hc⟩, ht, h3, h4', h5, h6⟩ := hW
    obtain ⟨ht1, rfl⟩ := rangeD_get hx
    have ht2 : t < k := by omega
    have sq' := hc.same.sq
    have hl' := sq'.1
    obtain ⟨U, hU⟩ : ∃ U, rows'[k]? = some U := ⟨_, List.getElem?_eq_getElem (by omega)⟩
    obtain ⟨V, hV⟩ : ∃ V, rows'[k - 1 - t]? = some V := ⟨_, List.getElem?_eq_getElem (by omega)⟩
    have lU := sq'.2 U (List.mem_of_getElem? hU)
    have lV := sq'.2 V (List.mem_of_getElem? hV)
    have tb : t * (9 * B + 26) ≤ 3 * (9 * B + 26) := Nat.mul_le_mul_right _ (by omega)
    obtain ⟨zm, zV, hc2⟩ := hc.step h4 hs hk hd hz (show k - 1 - t + t + 1 = k by omega) hU hV
    have ep : ((k : Nat) : Int) - 1 - (t : Nat) = ((k - 1 - t : Nat) : Int) := by omega
    have ep1 : ((k : Nat) : Int) - 1 - (t : Nat) + 1 = ((k - 1 - t + 1 : Nat) : Int) := by omega
    have d0 := hd (k - 1 - t + 1) (by omega)
    have d1 := hd2 (k - 1 - t + 1) (by omega)
    rw [← hc.dd (k - 1 - t + 1) (by omega)] at zm hc2 d0 d1
    refine ⟨⟨nvs_map _ _, nvs_map _ _, h4' _ (h5 _ (h6 _ ⟨⟩))⟩, nd0, false, rows', n, n, B + t * (9 * B + 26), congrArg (fun x => [T.d x]) (fz_own p2 rowD rows'), sq', h4, h4, fun a ha => by rw [hc.dd a (by omega)]; exact hd a (by omega), fun a ha => by rw [hc.dd a (by omega)]; exact (hd2 a ha).mono (by decide), hc.szs hs hz, by omega, fun ps pq f => ⟨lft_sh _ _ _ _ _ _, rfl, nvs_map _ _, nvs_shT _ _ _, ?_⟩⟩
    rw [fz_shT, fz_own pq PyData.int (spL rows' (n + 1))]
    have iU := matO_at (rows := rows') (i := ((k : Nat) : Int)) rfl hU
    have iV := matO_at (rows := rows') ep hV
    refine ⟨_, shD_get rfl hk, _, lamD_get ep (by omega), mulOkL (by decide) (by decide), _, spD_get ep1 (by omega), _, spD_get ep1 (by omega), mulOkL (by decide) (by decide), divOk (n := 8992) (by show (0 : Int) < 2 * _; omega) (((show Sz 2 2 by unfold Sz; decide).mul d1).mono (by decide)) (by decide), ?_⟩
    refine ⟨rfl, _, iU, rfl, _, iV, nd0, false, false, U, V, _, _, _, rfl, zm, fun a ha => zV.mem ha, by omega, by omega, by omega, fun pa => ⟨nvs_map _ _, ?_⟩⟩
    rw [fz_own pa PyData.int (vAdd U (-((2 * lam rows' k (k - 1 - t) + Dd rows' (k - 1 - t + 1)) / (2 * Dd rows' (k - 1 - t + 1)))) V)]
    have lm : (rows'.map fun r => T.d (rowD r)).length = rows'.length := List.length_map ..
    refine ⟨_, setI_at rfl (by omega), _, _, _, _, _, rfl, ⟨_, ?_, hc2⟩, by omega, fun _ h => h, fun _ h => h, fun _ h => h, fun _ h => h⟩
    rw [List.map_set]
  · obtain ⟨L2, s3, s4, s5, s6, rfl, ⟨rows', rfl, hc⟩, ht, h3, h4', h5, h6⟩ := hW
    rw [rangeD_len] at hc
    have e : (((k : Nat) : Int) - 1 - (-1)).toNat = k := by omega
    rw [e] at hc
    exact ⟨⟨rfl, ⟨⟩⟩, q p2 rows' hc⟩
end L3
set_option pp.maxSteps 600
namespace L3
open PySem PySem.Spec PyProof.Rows L2
local macro_rules | `(tactic| wtm_at "sh") => `(tactic| conv => whnf)
theorem take_congr {rows rows' : Mat} {a : Nat} (h : ∀ i, i < a → rows'[i]? = rows[i]?) : rows'.take a = rows.take a := by
  refine List.ext_getElem? fun i => ?_
  rw [List.getElem?_take, List.getElem?_take]
  split
  · rename_i hi; exact h i hi
  · rfl
theorem getD_congr {rows rows' : Mat} {i : Nat} (h : rows'[i]? = rows[i]?) : rows'.getD i [] = rows.getD i [] := by
  rw [List.getD_eq_getElem?_getD, List.getD_eq_getElem?_getD, h]
theorem lam_congr {rows rows' : Mat} {a i j : Nat} (h : ∀ i, i < a → rows'[i]? = rows[i]?) (hi : i < a) (hj : j < a) : lam rows' i j = lam rows i j := by
  unfold lam Mu
  rw [take_congr fun k hk => h k (by omega), getD_congr (h i hi), getD_congr (h j hj)]
/-- the spans no greater than powers -/
def DdB (n e : Nat) (rows : Mat) : Prop := ∀ a, a ≤ n → Dd rows a ≤ 2 ^ (a * e)
theorem DdB.of {m n b : Nat} {rows : Mat} (m4 : m ≤ 4) (n4 : n ≤ 4) (hs : Sq m n rows) (hz : ∀ r ∈ rows, SzL b r) : DdB m (2 * b + 5) rows := fun a ha => by
  have l1 := take_len (rows := rows) (a := a) (by rw [hs.1]; exact ha)
  have := det_sz (2 * b + 3) a (gm (rows.take a) (rows.take a)) (by omega) (gm_sq l1 l1) fun r hr => by
    unfold gm at hr
    obtain ⟨v, hv, rfl⟩ := List.mem_map.mp hr
    exact pr_Sz n4 (hs.2 v (List.mem_of_mem_take hv)) (hz v (List.mem_of_mem_take hv)) fun w hw => hz w (List.mem_of_mem_take hw)
  unfold Dd
  rw [show 2 * b + 3 + 2 = 2 * b + 5 by omega] at this
  have e : ((2 ^ (a * (2 * b + 5)) : Nat) : Int) = (2 : Int) ^ (a * (2 * b + 5)) := by simp
  omega
/-- the shares of a row are at most a half -/
def ShB (rows : Mat) (k : Nat) : Prop := ∀ j, j < k → 2 * (lam rows k j).natAbs ≤ (Dd rows (j + 1)).natAbs
theorem sq_nonneg (a : Int) : 0 ≤ a * a := by
  rcases Int.le_total 0 a with h | h
  · exact Int.mul_nonneg h h
  · exact Int.mul_nonneg_of_nonpos_of_nonpos h h
theorem norm_step {n a k : Nat} {rows : Mat} {r : List Int} (h4 : n ≤ 4) (hs : Sq n n rows) (hd : ∀ a, a ≤ n → 0 < Dd rows a) (hk : k < n) (ha : a < k) (hr : rows[k]? = some r) (hu : 0 ≤ Mu rows (a + 1) r r) (sh : ShB rows k) : Mu rows a r r ≤ Dd rows a * Mu rows (a + 1) r r + Dd rows (a + 1) := by
  have hl := hs.1
  obtain ⟨s, hs2⟩ : ∃ s, rows[a]? = some s := ⟨_, List.getElem?_eq_getElem (by omega)⟩
  have e := syl a rows s r r (by omega) hs2
  rw [← Dd_succ hs2, Mu_symm (x := r) (y := s) (by omega) (by omega), ← lam_at hr hs2] at e
  have b := sh a ha
  have d1 := hd (a + 1) (by omega)
  have d0 := hd a (by omega)
  have l2 : lam rows k a * lam rows k a ≤ Dd rows (a + 1) * Dd rows (a + 1) := by
    rw [← Int.natAbs_mul_self (a := lam rows k a)]
    have h1 : (lam rows k a).natAbs * (lam rows k a).natAbs ≤ (Dd rows (a + 1)).natAbs * (Dd rows (a + 1)).natAbs := Nat.mul_le_mul (by omega) (by omega)
    have h2 := Int.natAbs_mul_self (a := Dd rows (a + 1))
    omega
  have p1 : 0 ≤ Dd rows a * Mu rows (a + 1) r r := Int.mul_nonneg (by omega) hu
  have p2 : Dd rows a * Mu rows (a + 1) r r ≤ Dd rows (a + 1) * (Dd rows a * Mu rows (a + 1) r r) := by
    have := Int.mul_le_mul_of_nonneg_right (show 1 ≤ Dd rows (a + 1) by omega) p1
    omega
  have p3 : Dd rows (a + 1) * Mu rows a r r ≤ Dd rows (a + 1) * (Dd rows a * Mu rows (a + 1) r r + Dd rows (a + 1)) := by
    rw [Int.mul_add]; omega
  exact Int.le_of_mul_le_mul_left p3 d1
theorem mu_pos' {n a : Nat} {rows : Mat} {r : List Int} (h4 : n ≤ 4) (hs : Sq n n rows) (hd : ∀ a, a ≤ n → 0 < Dd rows a) (ha : a < n) (hr : r.length = n) : 0 ≤ Mu rows a r r := (mu_pos hs a (by omega) (by omega) (fun b hb => hd (b + 1) (by omega)) r hr).1
theorem norm_up {n e a k w : Nat} {rows : Mat} {r : List Int} (h4 : n ≤ 4) (hs : Sq n n rows) (hd : ∀ a, a ≤ n → 0 < Dd rows a) (hB : DdB n e rows) (hk : k < n) (ha : a < k) (hr : rows[k]? = some r) (sh : ShB rows k) (h : Mu rows (a + 1) r r ≤ 2 ^ w) (hw : e ≤ w) : Mu rows a r r ≤ 2 ^ (a * e + w + 1) := by
  have lr := hs.2 r (List.mem_of_getElem? hr)
  have u0 := mu_pos' h4 hs hd (show a + 1 < n by omega) lr
  have s := norm_step h4 hs hd hk ha hr u0 sh
  have b0 := hB a (by omega)
  have b1 := hB (a + 1) (by omega)
  have d0 := hd a (by omega)
  have m1 : Dd rows a * Mu rows (a + 1) r r ≤ 2 ^ (a * e) * 2 ^ w := by
    have x1 := Int.mul_le_mul_of_nonneg_right b0 u0
    have x2 := Int.mul_le_mul_of_nonneg_left h (show (0 : Int) ≤ 2 ^ (a * e) from Int.le_of_lt (Int.pow_pos (by decide)))
    omega
  have m2 : (2 : Int) ^ ((a + 1) * e) ≤ 2 ^ (a * e + w) := by
    have : (2 : Nat) ^ ((a + 1) * e) ≤ 2 ^ (a * e + w) := Nat.pow_le_pow_right (by decide) (by rw [Nat.add_mul]; omega)
    exact_mod_cast this
  rw [← Int.pow_add] at m1
  rw [Int.pow_succ]
  omega
theorem norm_le {n e k : Nat} {rows : Mat} {r : List Int} (h4 : n ≤ 4) (hs : Sq n n rows) (hd : ∀ a, a ≤ n → 0 < Dd rows a) (hB : DdB n e rows) (hk : k < n) (hr : rows[k]? = some r) (sh : ShB rows k) : dot r r ≤ 2 ^ (7 * e + 3) := by
  have u : Mu rows k r r ≤ 2 ^ ((k + 1) * e) := by rw [← Dd_succ hr]; exact hB (k + 1) (by omega)
  have up : ∀ {a w : Nat}, a < k → e ≤ w → Mu rows (a + 1) r r ≤ 2 ^ w → Mu rows a r r ≤ 2 ^ (a * e + w + 1) := fun ha hw h => norm_up h4 hs hd hB hk ha hr sh h hw
  have fin : ∀ {w : Nat}, w ≤ 7 * e + 3 → Mu rows 0 r r ≤ 2 ^ w → dot r r ≤ 2 ^ (7 * e + 3) := fun {w} hw h => by
    rw [Mu_zero] at h
    have : (2 : Nat) ^ w ≤ 2 ^ (7 * e + 3) := Nat.pow_le_pow_right (by decide) hw
    have e2 : (2 : Int) ^ w ≤ 2 ^ (7 * e + 3) := by exact_mod_cast this
    omega
  rcases (show k = 0 ∨ k = 1 ∨ k = 2 ∨ k = 3 by omega) with rfl | rfl | rfl | rfl
  · exact fin (by omega) u
  · exact fin (by omega) (up (by decide) (by omega) u)
  · exact fin (by omega) (up (by decide) (by omega) (up (by decide) (by omega) u))
  · exact fin (by omega) (up (by decide) (by omega) (up (by decide) (by omega) (up (by decide) (by omega) u)))
theorem dot_ge : ∀ (x : List Int) (a : Int), a ∈ x → a * a ≤ dot x x
  | b :: x, a, h => by
    have e : dot (b :: x) (b :: x) = b * b + dot x x := rfl
    have h1 := sq_nonneg b
    have h2 := (dot_self x).1
    rcases List.mem_cons.mp h with rfl | h
    · omega
    · have := dot_ge x a h; omega
theorem norm_sz {e : Nat} {r : List Int} (he : 5 ≤ e) (h : dot r r ≤ 2 ^ (7 * e + 3)) : SzL (4 * e) r := SzL.of fun a ha => by
  have h1 := dot_ge r a ha
  unfold Sz
  rcases Nat.lt_or_ge a.natAbs (2 ^ (4 * e)) with c | c
  · exact c
  · exfalso
    have h2 : 2 ^ (4 * e) * 2 ^ (4 * e) ≤ a.natAbs * a.natAbs := Nat.mul_le_mul c c
    rw [← Nat.pow_add] at h2
    have h3 : (2 : Nat) ^ (7 * e + 3) < 2 ^ (4 * e + 4 * e) := Nat.pow_lt_pow_right (by decide) (by omega)
    have h4 := Int.natAbs_mul_self (a := a)
    have h5 : ((2 ^ (7 * e + 3) : Nat) : Int) = (2 : Int) ^ (7 * e + 3) := by simp
    omega
/-- how the led rows stand at a place -/
structure LInv (n e : Nat) (rows0 rows : Mat) (at_ : Nat) : Prop where
  same : Same n rows0 rows
  dd : DdB n e rows
  sz : ∀ r ∈ rows, SzL (4 * e) r
  sh : ∀ i, i < at_ → ShB rows i
  lo : ∀ k, k + 1 < at_ → standB rows k = true
def pot (n : Nat) (rows : Mat) : Int := sumR n fun a => Dd rows a
theorem LInv.cut {n e k : Nat} {rows0 rows rows1 : Mat} (h4 : n ≤ 4) (he : 5 ≤ e) (h0 : Sq n n rows0) (hd0 : detN n rows0 ≠ 0) (h : LInv n e rows0 rows k) (hk : k < n) (hc : CutAt n (4 * e) k k rows rows1) : LInv n e rows0 rows1 k ∧ ShB rows1 k ∧ pot n rows1 = pot n rows := by
  have s1 := h.same.trans h0 hc.same
  have hl1 := s1.sq.1
  have hdet : detN n rows1 ≠ 0 := by have := s1.dt; omega
  have hd := Dd_pos h4 s1.sq hdet
  have dd1 : DdB n e rows1 := fun a ha => by rw [hc.dd a ha]; exact h.dd a ha
  have sh1 : ShB rows1 k := fun j hj => by rw [hc.dd _ (by omega)]; exact hc.sh j hj (by omega)
  have kp : ∀ i, i < k → rows1[i]? = rows[i]? := fun i hi => hc.keep i (by omega)
  refine ⟨⟨s1, dd1, fun r hr => ?_, fun i hi j hj => ?_, fun j hj => ?_⟩, sh1, sumR_congr fun a ha => hc.dd a (by omega)⟩
  · obtain ⟨i, hi⟩ := List.getElem?_of_mem hr
    by_cases c : i = k
    · subst c
      exact norm_sz he (norm_le h4 s1.sq hd dd1 hk hi sh1)
    · rw [hc.keep i c] at hi
      exact h.sz r (List.mem_of_getElem? hi)
  · rw [lam_congr kp (by omega) (by omega), hc.dd _ (by omega)]
    exact h.sh i hi j hj
  · have := h.lo j hj
    unfold standB at this ⊢
    rw [hc.dd _ (by omega), hc.dd _ (by omega), hc.dd _ (by omega), lam_congr kp (by omega) (by omega)]
    exact this
theorem LInv.on {n e k : Nat} {rows0 rows : Mat} (h : LInv n e rows0 rows k) (sh : ShB rows k) (hs : ∀ j, j + 1 = k → standB rows j = true) : LInv n e rows0 rows (k + 1) :=
  ⟨h.same, h.dd, h.sz, fun i hi => by
    by_cases c : i = k
    · subst c; exact sh
    · exact h.sh i (by omega), fun j hj => by
    by_cases c : j + 1 = k
    · exact hs j c
    · exact h.lo j (by omega)⟩
theorem pot_lt {n k : Nat} {rows rows' : Mat} (h : ∀ a, a < n → a ≠ k → Dd rows' a = Dd rows a) (hk : k < n) (hlt : Dd rows' k < Dd rows k) : pot n rows' < pot n rows := by
  unfold pot
  have : ∀ m, m ≤ n → (k < m → sumR m (fun a => Dd rows' a) < sumR m fun a => Dd rows a) ∧ (m ≤ k → sumR m (fun a => Dd rows' a) = sumR m fun a => Dd rows a) := by
    intro m
    induction m with
    | zero => intro _; exact ⟨fun h => by omega, fun _ => rfl⟩
    | succ m ih =>
      intro hm
      obtain ⟨i1, i2⟩ := ih (by omega)
      refine ⟨fun hkm => ?_, fun hmk => ?_⟩
      · show sumR m _ + Dd rows' m < sumR m _ + Dd rows m
        by_cases c : m = k
        · subst c
          rw [i2 (Nat.le_refl _)]; omega
        · rw [h m (by omega) c]
          have := i1 (by omega); omega
      · show sumR m _ + Dd rows' m = sumR m _ + Dd rows m
        rw [i2 (by omega), h m (by omega) (by omega)]
  exact (this n (Nat.le_refl _)).1 hk
theorem LInv.swapped {n e k : Nat} {rows0 rows : Mat} {U V : List Int} (h4 : n ≤ 4) (h0 : Sq n n rows0) (hd0 : detN n rows0 ≠ 0) (h : LInv n e rows0 rows (k + 1)) (hk : k + 1 < n) (hU : rows[k]? = some U) (hV : rows[k + 1]? = some V) (hs : standB rows k = false) (at_ : Nat) (ha : at_ = max 1 k) :
    LInv n e rows0 ((rows.set k V).set (k + 1) U) at_ ∧ pot n ((rows.set k V).set (k + 1) U) < pot n rows := by
  have sq := h.same.sq
  have hl := sq.1
  have hdet : detN n rows ≠ 0 := by have := h.same.dt; omega
  have hd := Dd_pos h4 sq hdet
  have e := syl k rows U V V (by omega) hU
  rw [← Dd_succ hU, Mu_symm (x := V) (y := U) (by omega) (by omega), ← lam_at hV hU, ← Dd_succ hV] at e
  have lt : Mu rows k V V < Dd rows (k + 1) := by
    unfold standB at hs
    have hs2 := of_decide_eq_false hs
    rcases Int.lt_or_le (Mu rows k V V) (Dd rows (k + 1)) with c | c
    · exact c
    · exfalso
      apply hs2
      have d := hd (k + 1) (by omega)
      have m1 : Dd rows (k + 1) * Dd rows (k + 1) ≤ Dd rows (k + 1) * Mu rows k V V := Int.mul_le_mul_of_nonneg_left c (by omega)
      have m2 := Int.mul_comm (Dd rows k) (Dd rows (k + 1 + 1))
      have m3 : 3 * Dd rows (k + 1) * Dd rows (k + 1) = 3 * (Dd rows (k + 1) * Dd rows (k + 1)) := Int.mul_assoc ..
      have p := sq_nonneg (Dd rows (k + 1))
      rw [show k + 2 = k + 1 + 1 from rfl]
      omega
  have dne : ∀ a, a ≤ n → a ≠ k + 1 → Dd ((rows.set k V).set (k + 1) U) a = Dd rows a := fun a ha hne => Dd_swap h4 sq hU hV ha hne
  have deq := Dd_swapped hU hV
  have kp : ∀ i, i < k → ((rows.set k V).set (k + 1) U)[i]? = rows[i]? := fun i hi => by rw [List.getElem?_set_ne (by omega), List.getElem?_set_ne (by omega)]
  refine ⟨⟨h.same.trans h0 (Same.swap h4 sq (by omega) hU hV), fun a ha => ?_, fun r hr => ?_, fun i hi j hj => ?_, fun j hj => ?_⟩, pot_lt (k := k + 1) (fun a ha hne => dne a (by omega) hne) hk (by rw [deq]; exact lt)⟩
  · by_cases c : a = k + 1
    · subst c
      rw [deq]
      have := h.dd (k + 1) ha
      omega
    · rw [dne a ha c]; exact h.dd a ha
  · rcases mem_set2 hr with hr | rfl | rfl
    · exact h.sz r hr
    · exact h.sz _ (List.mem_of_getElem? hV)
    · exact h.sz _ (List.mem_of_getElem? hU)
  · have hik : i < k := by omega
    rw [lam_congr kp hik (by omega), dne _ (by omega) (by omega)]
    exact h.sh i (by omega) j hj
  · have := h.lo j (by omega)
    unfold standB at this ⊢
    rw [dne _ (by omega) (by omega), dne _ (by omega) (by omega), dne _ (by omega) (by omega), lam_congr kp (by omega) (by omega)]
    exact this
theorem pot_nonneg {n : Nat} {rows : Mat} (h : ∀ a, a < n → 0 ≤ Dd rows a) : 0 ≤ pot n rows := by
  unfold pot
  have : ∀ m, m ≤ n → 0 ≤ sumR m fun a => Dd rows a := by
    intro m
    induction m with
    | zero => intro _; exact Int.le_refl _
    | succ m ih =>
      intro hm
      show 0 ≤ sumR m _ + Dd rows m
      have := ih (by omega)
      have := h m (by omega)
      omega
  exact this n (Nat.le_refl _)
def N_reduced : List Str := ["rows", "found", "at", "row"]
def body_reduced : TS3 := (xSeq (xDrop (xD (xFz (xCall sp_need_lattice xNoE (xArg (xView 0) xANil)))))
  (xSeq (xAsg (xLc (xSeqI (xView 0)) (xGName 3) xYes (xD (xFz (x1 cLst (xView 3)))) [3]) (xGName 1))
  (xSeq (xAsg (xD (xC (.int 1))) (xGName 2))
  (xSeq (xWhile (xTest (x2 kLt (xView 2) (x1 cLen (xView 1)))) (xSeq (xAsg (xCall sp_cut_down xNoE (xIo 1 (xArg (xView 2) xANil))) (xGName 1))
  (xIfS (xBorT (xTest (xFz (xCall sp_stands_behind xNoE (xArg (xView 1) (xArg (xView 2) xANil)))))) (xAugAdd 2 (xC (.int 1))) (xSeq (xAsg (xTup (xCons (xD (x2 cIx (xView 1) (xView 2))) (xCons (xD (x2 cIx (xView 1) (x2 kSub (xView 2) (xC (.int 1))))) xNil))) (xGTup 2 (xGCons (xGSub 1 (x2 kSub (xView 2) (xC (.int 1)))) (xGCons (xGSub 1 (xView 2)) xGNil))))
  (xAsg (xD (x2 kMax (xC (.int 1)) (x2 kSub (xView 2) (xC (.int 1))))) (xGName 2))))))
  (xRet (xD (x1 cTup (xFz (xLc (xSeqI (xFz (xMove 1))) (xGName 3) xYes (xD (x1 cTup (xView 3))) [3])))))))))
/-- reduced rows -/
structure Red (n b : Nat) (rows0 rows : Mat) : Prop where
  same : Same n rows0 rows
  sh : ∀ i, i < n → ShB rows i
  lo : ∀ k, k + 1 < n → standB rows k = true
  sz : ∀ r ∈ rows, SzL (8 * b + 20) r
def sp_reduced : Sp3 := fun ts Q _ => ∃ rows b, ts = [.d (matP rows)] ∧ rows.length ≤ 4 ∧ latB rows = true ∧ (∀ r ∈ rows, SzL b r) ∧ b ≤ 260 ∧ ∀ rows', Red rows.length b rows rows' → Q (.d (matP rows')) ts
theorem v_reduced (ts Q E) (h : sp_reduced ts Q E) : body_reduced { nx := fun r => finOk ts r ∧ Q (.d .none) (finF ts r), rt := fun x r => finOk ts r ∧ Q x (finF ts r) } (start3 N_reduced ts) := by
  obtain ⟨rows0, b, rfl, h4, hlat, hB, hb, q⟩ := h
  have hb2 : 1000 < sizeLine := by decide
  obtain ⟨n0, hs0, hd0⟩ := lat_sq hlat
  refine ⟨nd0, rows0, b, rfl, h4, hlat, hB, by omega, ?_⟩
  generalize hn : rows0.length = n at h4 n0 hs0 hd0 q
  refine lc_gen (rows0.map rowD) (by simp) (by rw [List.length_map]; omega) (fun r0 h0' i x y hx hy R S ku => ?_) fun r0 h0' pl => ?_
  · simp only [wp, puts, List.set_cons_succ, List.set_cons_zero] at h0'; subst h0'
    obtain ⟨u, hu, rfl⟩ := get_fun hx
    obtain rfl := get_map2 hy hu
    refine ⟨fun _ p => ⟨nvs_d _, ?_⟩, nofun⟩
    rw [fz_outs]
    exact ku _ rfl
  simp only [wp, puts, List.set_cons_succ, List.set_cons_zero] at h0'; subst h0'
  rw [show (rows0.map rowD).map T.d = rows0.map (fun r => T.d (rowD r)) by rw [List.map_map]; rfl]
  have i0 : LInv n (2 * b + 5) rows0 rows0 1 := ⟨.refl hs0, .of h4 h4 hs0 hB, fun r hr => (hB r hr).mono (by omega), fun i hi j hj => by omega, fun k hk => by omega⟩
  refine ⟨fun m r => ∃ rows k p L at_, r = [some (.d (matP rows0)), some (.own p L), some (.d (.int at_)), none] ∧ L = (rows.map fun r => T.d (rowD r)) ∧ at_ = (k : Nat) ∧ LInv n (2 * b + 5) rows0 rows k ∧ 1 ≤ k ∧ k ≤ n ∧ m = (2 * pot n rows + (n - k : Nat)).toNat, ⟨_, rows0, 1, pl, _, _, rfl, rfl, rfl, i0, Nat.le_refl _, n0, rfl⟩, fun m r hW => ?_⟩
  obtain ⟨rows, k, p, L, at_, rfl, rfl, rfl, hI, k1, kn, rfl⟩ := hW
  have sq := hI.same.sq
  have hl := sq.1
  have lm : (rows.map fun r => T.d (rowD r)).length = rows.length := List.length_map ..
  have hdet : detN n rows ≠ 0 := by have := hI.same.dt; omega
  have hd := Dd_pos h4 sq hdet
  refine ⟨fun hc => ?_, fun hc => ?_⟩
  · have hk : k < n := by
      have : decide (((k : Nat) : Int) < ((rows.map fun r => T.d (rowD r)).length : Int)) = true := hc
      have := of_decide_eq_true this
      omega
    have hds : ∀ a, a < n → Sz 8990 (Dd rows a) := fun a ha => by
      have h1 := hI.dd a (by omega)
      have h2 := hd a (by omega)
      have h3 : a * (2 * b + 5) ≤ 3 * (2 * b + 5) := Nat.mul_le_mul_right _ (by omega)
      have h4 : (2 : Nat) ^ (a * (2 * b + 5)) ≤ 2 ^ 2000 := Nat.pow_le_pow_right (by decide) (by omega)
      have h5 : ((2 ^ (a * (2 * b + 5)) : Nat) : Int) = (2 : Int) ^ (a * (2 * b + 5)) := by simp
      have h6 : (2 : Nat) ^ 2000 < 2 ^ 8990 := Nat.pow_lt_pow_right (by decide) (by decide)
      unfold Sz
      generalize (2 : Nat) ^ 2000 = A at h4 h6
      generalize (2 : Nat) ^ 8990 = B at h6
      omega
    refine ⟨nd1, p, _, rows, n, k, 4 * (2 * b + 5), _, rfl, rfl, rfl, sq, h4, hk, hd, hds, hI.sz, by omega, fun p2 rows1 hcut => ?_⟩
    obtain ⟨hI1, sh1, hp1⟩ := hI.cut h4 (by omega) hs0 hd0 hk hcut
    have sq1 := hI1.same.sq
    have hl1 := sq1.1
    have hdet1 : detN n rows1 ≠ 0 := by have := hI1.same.dt; omega
    have hd1 := Dd_pos h4 sq1 hdet1
    obtain ⟨j, rfl⟩ : ∃ j, k = j + 1 := ⟨k - 1, by omega⟩
    refine ⟨⟨nvs_map _ _, ⟨⟩⟩, nd0, false, rows1, n, n, 4 * (2 * b + 5), j, _, congrArg (fun x => [T.d x, _]) (fz_own p2 rowD rows1), rfl, ⟨sq1, h4, h4, fun a ha => hd1 a (by omega), fun a ha => by rw [hcut.dd a (by omega)]; exact (hds a ha).mono (by decide), hI1.sz, by omega⟩, hk, fun hc2 => ?_, fun hc2 => ?_⟩
    · have on := hI1.on sh1 (fun i hi => by obtain rfl : i = j := (by omega); exact hc2)
      have p0 := pot_nonneg (n := n) (rows := rows1) fun a ha => Int.le_of_lt (hd1 a (by omega))
      refine ⟨⟨⟩, _, ?_, rows1, j + 2, p2, _, _, rfl, rfl, (show ((j + 1 : Nat) : Int) + 1 = ((j + 2 : Nat) : Int) by omega), on, by omega, by omega, rfl⟩
      omega
    · obtain ⟨U, hU⟩ : ∃ U, rows1[j]? = some U := ⟨_, List.getElem?_eq_getElem (by omega)⟩
      obtain ⟨V, hV⟩ : ∃ V, rows1[j + 1]? = some V := ⟨_, List.getElem?_eq_getElem (by omega)⟩
      have ej : ((j + 1 : Nat) : Int) - 1 = (j : Nat) := by omega
      obtain ⟨hI2, hp2⟩ := hI1.swapped h4 hs0 hd0 hk hU hV hc2 (max 1 j) rfl
      have hdet2 : detN n ((rows1.set j V).set (j + 1) U) ≠ 0 := by have := hI2.same.dt; omega
      have hd2 := Dd_pos h4 hI2.same.sq hdet2
      have p0 := pot_nonneg (n := n) (rows := (rows1.set j V).set (j + 1) U) fun a ha => Int.le_of_lt (hd2 a (by omega))
      have lm1 : (rows1.map fun r => T.d (rowD r)).length = rows1.length := List.length_map ..
      refine ⟨rfl, _, matO_at rfl hV, rfl, _, matO_at ej hU, sz 2, rfl, _, setI_at ej (by omega), _, setI_at rfl (by rw [List.length_set]; omega), _, ?_, (rows1.set j V).set (j + 1) U, max 1 j, p2, _, _, rfl, ?_, by omega, hI2, by omega, by omega, rfl⟩
      · omega
      · rw [List.map_set, List.map_set]; rfl
  · have hk : k = n := by
      have : decide (((k : Nat) : Int) < ((rows.map fun r => T.d (rowD r)).length : Int)) = false := hc
      have := of_decide_eq_false this
      omega
    subst hk
    refine ⟨nvs_map _ _, ?_⟩
    rw [fz_own p rowD rows]
    refine lc_gen (rows.map rowT) (by simp) (by rw [List.length_map]; omega) (fun r0 h0' i x y hx hy R S ku => ?_) fun r0 h0' pn => ?_
    · simp only [wp, puts, List.set_cons_succ, List.set_cons_zero] at h0'; subst h0'
      obtain ⟨u, hu, rfl⟩ := get_fun hx
      obtain rfl := get_map2 hy hu
      exact ⟨fun _ => ku _ rfl, nofun⟩
    simp only [wp, puts, List.set_cons_succ, List.set_cons_zero] at h0'; subst h0'
    refine ⟨nvs_d _, ?_⟩
    rw [fz_outs]
    exact ⟨⟨⟩, q rows ⟨hI.same, hI.sh, hI.lo, fun r hr => (hI.sz r hr).mono (by omega)⟩⟩
end L3
set_option pp.maxSteps 600
namespace L3
open PySem PySem.Spec PyProof.Rows L2
local macro_rules | `(tactic| wtm_at "sh") => `(tactic| conv => whnf)
theorem lf_cut {α : Type} {f : α → PyData} {l' : List PyData} (h : α → PyData) (pr : α → Bool) (l : List α) (e : l' = l.map f) (hsz : l.length ≤ sizeLine) {r1 : Rho} {js : List Nat} {g : TG3} {tt : TT3} {te : TE3} {Fin : Addr → List T → Rho → Prop}
    (turn : ∀ r0, wp r1 js = r0 → ∀ u, u ∈ l → ∀ (R : T → Rho → Prop) (S : Rho → Prop), (pr u = true → ∀ r4, wp r4 js = r0 → R (.d (h u)) r4) → (pr u = false → ∀ r3, wp r3 js = r0 → S r3) → g (.d (f u)) r0 fun r2 => tt r2 fun b r3 => (b = true → te r3 R) ∧ (b = false → S r3))
    (fin : ∀ r0, wp r1 js = r0 → ∀ p, Fin p ((l.filter pr).map fun u => T.d (h u)) r0) :
    ∀ p, ∃ W : Nat → List T → Rho → Prop, W 0 [] (wp r1 js) ∧
      (∀ (i : Nat) (x : PyData) (acc : List T) (r : Rho), l'[i]? = some x → W i acc r → g (.d x) r fun r2 => tt r2 fun b r3 => (b = true → te r3 fun y r4 => acc.length < sizeLine ∧ W (i + 1) (acc ++ [y]) (wp r4 js)) ∧ (b = false → W (i + 1) acc (wp r3 js))) ∧
      ∀ acc r, W l'.length acc r → Fin p acc r := by
  subst e
  exact lf_gen h pr l hsz turn fin
instance (rows : Mat) (k : Nat) : Decidable (ShB rows k) := by unfold ShB; infer_instance
def L1_has_small_shares : TS3 := (xFor (xEnumX (xView 1)) (xGTup 2 (xGCons (xGName 3) (xGCons (xGName 4) xGNil))) (xIfS (xTest (x2 kNe (xFz (xLc (xR1 (xView 3)) (xGName 5) (xTest (x2 kGt (x2 kMul (xC (.int 2)) (x1 cAbs (x2 cIx (xView 4) (xView 5)))) (x2 cIx (xView 2) (x2 kAdd (xView 5) (xC (.int 1)))))) (xMove 5) [5])) (xFz (xLst xNil)))) (xRet (xD (xC (.bool false)))) xNext))
def N_has_small_shares : List Str := ["rows", "shares", "spans", "at", "own", "place"]
def body_has_small_shares : TS3 := (xSeq (xAsg (xCall sp_shares_of xNoE (xArg (xView 0) xANil)) (xGTup 2 (xGCons (xGName 1) (xGCons (xGName 2) xGNil))))
  (xFzS 2 (xFzS 1 (xSeq L1_has_small_shares
  (xRet (xD (xC (.bool true))))))))
def smallB (m : Nat) (rows : Mat) : Bool := decide (∀ i, i < m → ShB rows i)
def sp_has_small_shares : Sp3 := fun ts Q _ => ∃ rb rows m n b, ts = [.d (matB rb rows)] ∧ ShOk m n b rows ∧ Q (.d (.bool (smallB m rows))) ts
theorem filt_shB {rows : Mat} {m i : Nat} (hi : i < m) (hd : ∀ a, a < m → 0 < Dd rows a) : (((List.range i).filter fun j => decide (2 * ((lam rows i j).natAbs : Int) > Dd rows (j + 1))) = []) ↔ ShB rows i := by
  rw [filter_none]
  constructor
  · intro h j hj
    have := of_decide_eq_false (h j (List.mem_range.mpr hj))
    have := hd (j + 1) (by omega)
    omega
  · intro h j hj
    have hj := List.mem_range.mp hj
    have := h j hj
    have := hd (j + 1) (by omega)
    exact decide_eq_false (by omega)
theorem v_has_small_shares (ts Q E) (h : sp_has_small_shares ts Q E) : body_has_small_shares { nx := fun r => finOk ts r ∧ Q (.d .none) (finF ts r), rt := fun x r => finOk ts r ∧ Q x (finF ts r) } (start3 N_has_small_shares ts) := by
  obtain ⟨rb, rows, m, n, b, rfl, ⟨hs, m4, n4, hd, hd2, hz, hb⟩, q⟩ := h
  have hb2 : 1000 < sizeLine := by decide
  refine ⟨nd0, rb, rows, m, n, b, rfl, hs, m4, n4, hd, hd2, hz, hb, fun ps pq f => ⟨rfl, nvs_map _ _, nvs_shT _ _ _, ?_⟩⟩
  rw [fz_shT, fz_own pq PyData.int (spL rows (m + 1))]
  refine ⟨_, rfl, fun i r => ∃ s3 s4, r = [some (.d (matB rb rows)), some (.d (.list ((List.range m).map fun i => rowD (lamR rows i (i + 1))))), some (.d (rowD (spL rows (m + 1)))), s3, s4, none] ∧ (∀ k, k < i → ShB rows k), ⟨_, _, rfl, fun k hk => by omega⟩, fun i x r hx hW => ?_, fun r hW => ?_⟩
  · obtain ⟨s3, s4, rfl, hI⟩ := hW
    obtain ⟨u, hu, rfl⟩ := enum_get hx
    have hi : i < m := by have := (List.getElem?_eq_some_iff.mp hu).1; rw [List.length_range] at this; exact this
    rw [List.getElem?_range hi] at hu
    obtain rfl : i = u := Option.some.inj hu
    refine ⟨rfl, by omega, by omega, lf_cut (f := fun j : Nat => PyData.int (0 + (j : Nat))) (fun j => PyData.int (0 + (j : Nat))) (fun j : Nat => decide (2 * ((lam rows i j).natAbs : Int) > Dd rows (j + 1))) (List.range i) rfl (by rw [List.length_range]; omega) (fun r0 h0 j hj R S k1 k2 => ?_) fun r0 h0 p => ?_⟩
    · simp only [wp, puts, List.set_cons_succ, List.set_cons_zero] at h0; subst h0
      have hj := List.mem_range.mp hj
      exact ⟨_, lamD_get (j := j) (by omega) (by omega), mulOkL (by decide) (by decide), _, spD_get (j := j + 1) (show (0 + (j : Nat) + 1 : Int) = ((j + 1 : Nat) : Int) by omega) (by omega), fun hc => k1 hc _ rfl, fun hc => k2 hc _ rfl⟩
    · simp only [wp, puts, List.set_cons_succ, List.set_cons_zero] at h0; subst h0
      refine ⟨nvs_map _ _, sz 0, fun p2 => ⟨rfl, ?_⟩⟩
      rw [fz_own p (fun j : Nat => PyData.int (0 + (j : Nat))) ((List.range i).filter fun j => decide (2 * ((lam rows i j).natAbs : Int) > Dd rows (j + 1)))]
      have fl := List.length_filter_le (fun j : Nat => decide (2 * ((lam rows i j).natAbs : Int) > Dd rows (j + 1))) (List.range i)
      rw [List.length_range] at fl
      have ee := eqv_map_nil (fun j : Nat => PyData.int (0 + (j : Nat))) ((List.range i).filter fun j => decide (2 * ((lam rows i j).natAbs : Int) > Dd rows (j + 1)))
      have ff := filt_shB (rows := rows) hi hd
      refine ⟨nest_shaped (n := 8) ⟨by rw [List.length_map]; omega, fun x hx => by obtain ⟨_, _, rfl⟩ := List.mem_map.mp hx; exact ⟨⟩⟩ (by decide), shp_nilL, fun hc => ?_, fun hc => ?_⟩
      · have hc' : (!PyData.eqv (.list (((List.range i).filter fun j => decide (2 * ((lam rows i j).natAbs : Int) > Dd rows (j + 1))).map fun j : Nat => PyData.int (0 + (j : Nat)))) (.list [])) = true := hc
        rw [ee] at hc'
        have : ¬ ShB rows i := fun h => by rw [decide_eq_true (ff.mpr h)] at hc'; cases hc'
        have e : smallB m rows = false := decide_eq_false fun h => this (h i hi)
        rw [e] at q
        exact ⟨⟨⟩, q⟩
      · have hc' : (!PyData.eqv (.list (((List.range i).filter fun j => decide (2 * ((lam rows i j).natAbs : Int) > Dd rows (j + 1))).map fun j : Nat => PyData.int (0 + (j : Nat)))) (.list [])) = false := hc
        rw [ee] at hc'
        have hsh : ShB rows i := ff.mp (by simpa using hc')
        exact ⟨_, _, rfl, fun k hk => by
          by_cases c : k = i
          · subst c; exact hsh
          · exact hI k (by omega)⟩
  · obtain ⟨s3, s4, rfl, hI⟩ := hW
    rw [enumD_len, List.length_map, List.length_range] at hI
    have e : smallB m rows = true := decide_eq_true hI
    rw [e] at q
    exact ⟨⟨⟩, q⟩
def N_reduced_shown : List Str := ["rows", "told", "at"]
def body_reduced_shown : TS3 := (xSeq (xIfS (xOr (xNot (xTest (xFz (xCall sp_same_lattice xNoE (xArg (xView 0) (xArg (xView 1) xANil)))))) (xNot (xTest (xFz (xCall sp_has_small_shares xNoE (xArg (xView 1) xANil)))))) (xRet (xD (xC (.bool false)))) xNext)
  (xRet (xD (x2 kEq (xFz (xLc (xR2 (xC (.int 1)) (x1 cLen (xView 1))) (xGName 2) (xNot (xTest (xFz (xCall sp_stands_behind xNoE (xArg (xView 1) (xArg (xView 2) xANil)))))) (xMove 2) [2])) (xFz (xLst xNil))))))
/-- whether rows are reduced -/
def redB (rows : Mat) : Bool := smallB rows.length rows && decide (∀ k, k < rows.length - 1 → standB rows k = true)
def sp_reduced_shown : Sp3 := fun ts Q _ => ∃ one other b, ts = [.d (matP one), .d (matP other)] ∧ one.length ≤ 4 ∧ latB one = true ∧ (∀ r ∈ one, SzL b r) ∧ other.length ≤ 1000 ∧ (∀ r ∈ other, r.length ≤ 1000) ∧ (sqB other = true → other.length ≤ 4) ∧ (∀ r ∈ other, SzL b r) ∧ b ≤ 370 ∧ Q (.d (.bool (sameB one other && redB other))) ts
theorem ShOk.of {n b : Nat} {rows : Mat} (h4 : n ≤ 4) (hs : Sq n n rows) (hd : detN n rows ≠ 0) (hz : ∀ r ∈ rows, SzL b r) (hb : b ≤ 1000) : ShOk n n b rows :=
  ⟨hs, h4, h4, fun a ha => Dd_pos h4 hs hd a (by omega), fun a ha => (Dd_Sz h4 h4 hs hz (by omega)).mono (by omega), hz, by omega⟩
theorem v_reduced_shown (ts Q E) (h : sp_reduced_shown ts Q E) : body_reduced_shown { nx := fun r => finOk ts r ∧ Q (.d .none) (finF ts r), rt := fun x r => finOk ts r ∧ Q x (finF ts r) } (start3 N_reduced_shown ts) := by
  obtain ⟨one, other, b, rfl, h4, l1, hz, k1, k2, k3, kz, hb, q⟩ := h
  have hb2 : 1000 < sizeLine := by decide
  have l2m : (other.map rowT).length = other.length := List.length_map ..
  refine ⟨nd0, one, other, b, rfl, h4, l1, hz, k1, k2, k3, kz, hb, fun hc => ⟨fun _ => ⟨⟨⟩, ?_⟩, nofun⟩, fun hc => ?_⟩
  · have e : sameB one other = false := by
      have : (!sameB one other) = true := hc
      simpa using this
    rw [e, Bool.false_and] at q
    exact q
  · have e : sameB one other = true := by
      have : (!sameB one other) = false := hc
      simpa using this
    rw [e, Bool.true_and] at q
    have l2 : latB other = true := by
      unfold sameB at e
      simp only [Bool.and_eq_true] at e
      exact e.1.1.1
    have k4 : other.length ≤ 4 := k3 ((Bool.and_eq_true _ _ ▸ l2 : sqB other = true ∧ _).1)
    obtain ⟨n0, hs, hd⟩ := lat_sq l2
    have ok := ShOk.of k4 hs hd kz (by omega)
    refine ⟨nd0, true, other, other.length, other.length, b, rfl, ok, fun hc => ?_, fun hc => ?_⟩
    · have e2 : smallB other.length other = false := by
        have : (!smallB other.length other) = true := hc
        simpa using this
      unfold redB at q
      rw [e2, Bool.false_and] at q
      exact ⟨⟨⟩, q⟩
    · have e2 : smallB other.length other = true := by
        have : (!smallB other.length other) = false := hc
        simpa using this
      unfold redB at q
      rw [e2, Bool.true_and] at q
      refine ⟨⟨by decide, by decide, by omega, by omega⟩, lf_cut (f := fun j : Nat => PyData.int (1 + (j : Nat))) (fun j => PyData.int (1 + (j : Nat))) (fun j : Nat => !standB other j) (List.range (other.length - 1)) (by unfold rangeI; rw [l2m, show ((other.length : Int) - 1).toNat = other.length - 1 by omega]) (by rw [List.length_range]; omega) (fun r0 h0 j hj R S k1 k2 => ?_) fun r0 h0 p => ?_⟩
      · simp only [wp, puts, List.set_cons_succ, List.set_cons_zero] at h0; subst h0
        have hj := List.mem_range.mp hj
        exact ⟨nd0, true, other, other.length, other.length, b, j, _, rfl, by omega, ok, by omega, fun hc => k1 hc _ rfl, fun hc => k2 hc _ rfl⟩
      · simp only [wp, puts, List.set_cons_succ, List.set_cons_zero] at h0; subst h0
        refine ⟨nvs_map _ _, sz 0, fun p2 => ⟨rfl, ?_⟩⟩
        rw [fz_own p (fun j : Nat => PyData.int (1 + (j : Nat))) ((List.range (other.length - 1)).filter fun j => !standB other j)]
        have fl := List.length_filter_le (fun j : Nat => !standB other j) (List.range (other.length - 1))
        rw [List.length_range] at fl
        refine ⟨nest_shaped (n := 8) ⟨by rw [List.length_map]; omega, fun x hx => by obtain ⟨_, _, rfl⟩ := List.mem_map.mp hx; exact ⟨⟩⟩ (by decide), shp_nilL, ⟨⟩, ?_⟩
        show Q (.d (.bool (PyData.eqv (.list (((List.range (other.length - 1)).filter fun j => !standB other j).map fun j : Nat => PyData.int (1 + (j : Nat)))) (.list [])))) _
        rw [eqv_map_nil]
        have e3 : decide (((List.range (other.length - 1)).filter fun j => !standB other j) = []) = decide (∀ k, k < other.length - 1 → standB other k = true) := by
          refine decide_eq_decide.mpr ?_
          rw [filter_none]
          exact ⟨fun h k hk => by have := h k (List.mem_range.mpr (by omega)); simpa using this, fun h k hk => by have := List.mem_range.mp hk; rw [h k (by omega)]; rfl⟩
        rw [e3]
        exact q
end L3
set_option pp.maxSteps 600
namespace L3
open PySem PySem.Spec PyProof.Rows L2
local macro_rules | `(tactic| wtm_at "sh") => `(tactic| conv => whnf)
end L3
set_option pp.maxSteps 600
namespace L3
open PySem PySem.Spec PyProof.Rows L2
local macro_rules | `(tactic| wtm_at "sh") => `(tactic| conv => whnf)
def MatOk2 (M : Mat) : Prop := M.length ≤ 4 ∧ ∀ r ∈ M, r.length ≤ 5 ∧ SzL 2000 r
theorem MatOk2.of {n b : Nat} {M : Mat} (h : Sq n n M) (h4 : n ≤ 4) (hz : ∀ r ∈ M, SzL b r) (hb : b ≤ 2000) : MatOk2 M := ⟨by rw [h.1]; exact h4, fun r hr => ⟨by rw [h.2 r hr]; omega, (hz r hr).mono hb⟩⟩
end L3
set_option pp.maxSteps 600
namespace L3
open PySem PySem.Spec PyProof.Rows L2
local macro_rules | `(tactic| wtm_at "sh") => `(tactic| conv => whnf)
end L3
namespace L3
open PySem PySem.Spec PyProof.Rows L2
local macro_rules | `(tactic| wtm_at "sh") => `(tactic| conv => whnf)
/-! ## refusals of what is no lattice -/
def N_measure : List Str := ["rows"]
def body_measure : TS3 := (xSeq (xDrop (xCall sp_need_lattice xNoE (xArg (xView 0) xANil)))
  (xRet (xCall sp_measure_of xNoE (xArg (xView 0) xANil))))
def sp_measure : Sp3 := fun ts Q _ => ∃ rows b, ts = [.d (matP rows)] ∧ rows.length ≤ 4 ∧ latB rows = true ∧ (∀ r ∈ rows, SzL b r) ∧ b ≤ 370 ∧ Q (.d (.int (detN rows.length rows).natAbs)) ts
theorem v_measure (ts Q E) (h : sp_measure ts Q E) : body_measure { nx := fun r => finOk ts r ∧ Q (.d .none) (finF ts r), rt := fun x r => finOk ts r ∧ Q x (finF ts r) } (start3 N_measure ts) := by
  obtain ⟨rows, b, rfl, h1, h2, hB, hb, k⟩ := h
  obtain ⟨n0, hs, hd⟩ := lat_sq h2
  exact ⟨nd0, rows, b, rfl, h1, h2, hB, hb, nd0, rows, rows.length, b, rfl, hs, h1, hB, hb, ⟨⟩, k⟩
/-- rows that tell no lattice, and that are no longer than what can be looked at -/
def BadR (rows : Mat) : Prop := ∃ b, rows.length ≤ 1000 ∧ (∀ r ∈ rows, r.length ≤ 1000) ∧ (sqB rows = true → rows.length ≤ 4) ∧ (∀ r ∈ rows, SzL b r) ∧ b ≤ 370 ∧ latB rows = false
end L3
set_option pp.maxSteps 600
namespace L3
open PySem PySem.Spec PyProof.Rows L2
local macro_rules | `(tactic| wtm_at "sh") => `(tactic| conv => whnf)
theorem det_zero_row {n i : Nat} {rows : Mat} (h : Sq n n rows) (hi : i < n) : detN n (rows.set i (List.replicate n 0)) = 0 := by
  have e : List.replicate n (0 : Int) = (List.replicate n (0 : Int)).map (0 * ·) := by simp
  rw [e, det_scale 0 h hi (by simp), Int.zero_mul]
theorem MatOk.of {n m b : Nat} {M : Mat} (hm : M.length ≤ 4) (hn : ∀ r ∈ M, r.length ≤ 5) (hz : ∀ r ∈ M, SzL b r) (hb : b ≤ 1000) : MatOk M := ⟨hm, fun r hr => ⟨hn r hr, (hz r hr).mono hb⟩⟩
theorem set_sz {b k : Nat} {rows : Mat} {r : List Int} (hz : ∀ r ∈ rows, SzL b r) (h : SzL b r) : ∀ x ∈ rows.set k r, SzL b x := fun x hx => by
  rcases List.mem_or_eq_of_mem_set hx with h1 | rfl
  · exact hz x h1
  · exact h
end L3
set_option pp.maxSteps 600
namespace L3
open PySem PySem.Spec PyProof.Rows L2
local macro_rules | `(tactic| wtm_at "sh") => `(tactic| conv => whnf)
end L3
set_option pp.maxSteps 600
namespace L3
open PySem PySem.Spec PyProof.Rows L2
local macro_rules | `(tactic| wtm_at "sh") => `(tactic| conv => whnf)
/-! ## shares and spans, kept while rows change: plain laws -/
theorem last_set {l : Mat} {x z : List Int} {i : Nat} (h : i < l.length) : l.set i z ++ [x] = (l ++ [x]).set i z := by
  rw [List.set_append_left _ _ h]
theorem Mu_swap {n i a : Nat} {rows : Mat} {U V x y : List Int} (h4 : n ≤ 4) (ha : a ≤ 3) (h : Sq n n rows) (hi : i + 1 < a) (han : a ≤ n) (hU : rows[i]? = some U) (hV : rows[i + 1]? = some V) : Mu ((rows.set i V).set (i + 1) U) a x y = Mu rows a x y := by
  have hl := h.1
  have l1 := take_len (rows := rows) (a := a) (by omega)
  have gU : ∀ z, (rows.take a ++ [z])[i]? = some U := fun z => by rw [List.getElem?_append_left (by omega), List.getElem?_take, if_pos (by omega)]; exact hU
  have gV : ∀ z, (rows.take a ++ [z])[i + 1]? = some V := fun z => by rw [List.getElem?_append_left (by omega), List.getElem?_take, if_pos hi]; exact hV
  have step : ∀ (z : List Int) (ys : Mat), ys.length = a + 1 → detN (a + 1) (gm (((rows.take a ++ [z]).set i V).set (i + 1) U) ys) = - detN (a + 1) (gm (rows.take a ++ [z]) ys) := fun z ys ly => by
    rw [gm_set, gm_set]
    exact det_swap (by omega) (gm_sq (one_len l1) ly) (by omega) (gm_get (gU z)) (gm_get (gV z))
  unfold Mu
  rw [List.take_set, List.take_set, last_set (by rw [List.length_set]; omega), last_set (by omega), last_set (by rw [List.length_set]; omega), last_set (by omega), step _ _ (by rw [List.length_set, List.length_set]; exact one_len l1), gm_T (a + 1) _ _ (by omega) (one_len l1) (by rw [List.length_set, List.length_set]; exact one_len l1), step _ _ (one_len l1), Int.neg_neg, gm_T (a + 1) _ _ (by omega) (one_len l1) (one_len l1)]
theorem mu_take2 {rows : Mat} {k l a : Nat} {x y z w : List Int} (h : a ≤ k) (h2 : a ≤ l) : Mu ((rows.set k z).set l w) a x y = Mu rows a x y := by
  rw [mu_take h2, mu_take h]
/-- what the shares and spans are behind an exchange -/
structure Exch (n k : Nat) (rows : Mat) (rows' : Mat) : Prop where
  sp : Dd rows (k + 1) * Dd rows' (k + 1) = Dd rows k * Dd rows (k + 2) + lam rows (k + 1) k * lam rows (k + 1) k
  dd : ∀ a, a ≤ n → a ≠ k + 1 → Dd rows' a = Dd rows a
  up : ∀ j, j < k → lam rows' k j = lam rows (k + 1) j
  dn : ∀ j, j < k → lam rows' (k + 1) j = lam rows k j
  kk : lam rows' k k = Dd rows' (k + 1)
  sh : lam rows' (k + 1) k = lam rows (k + 1) k
  two : lam rows' (k + 1) (k + 1) = lam rows (k + 1) (k + 1)
  b1 : ∀ i, k + 1 < i → i < n → Dd rows (k + 1) * lam rows' i (k + 1) = Dd rows (k + 2) * lam rows i k - lam rows (k + 1) k * lam rows i (k + 1)
  b0 : ∀ i, k + 1 < i → i < n → Dd rows (k + 2) * lam rows' i k = Dd rows' (k + 1) * lam rows i (k + 1) + lam rows (k + 1) k * lam rows' i (k + 1)
  st : ∀ i j, i < n → j ≤ i → (i < k ∨ (k + 1 < i ∧ j ≠ k ∧ j ≠ k + 1)) → lam rows' i j = lam rows i j
theorem exch {n k : Nat} {rows : Mat} {U V : List Int} (h4 : n ≤ 4) (h : Sq n n rows) (hd : ∀ a, a ≤ n → 0 < Dd rows a) (hk : k + 1 < n) (hU : rows[k]? = some U) (hV : rows[k + 1]? = some V) : Exch n k rows ((rows.set k V).set (k + 1) U) := by
  have hl := h.1
  have g0 : ((rows.set k V).set (k + 1) U)[k]? = some V := by rw [List.getElem?_set_ne (by omega), List.getElem?_set_self (by omega)]
  have g1 : ((rows.set k V).set (k + 1) U)[k + 1]? = some U := List.getElem?_set_self (by rw [List.length_set]; omega)
  have gi : ∀ {i : Nat} {S : List Int}, i ≠ k → i ≠ k + 1 → rows[i]? = some S → ((rows.set k V).set (k + 1) U)[i]? = some S := fun {i} {S} e1 e2 hS => by rw [List.getElem?_set_ne (by omega), List.getElem?_set_ne (by omega)]; exact hS
  have tk : ∀ {a : Nat} {x y : List Int}, a ≤ k → Mu ((rows.set k V).set (k + 1) U) a x y = Mu rows a x y := fun ha => mu_take2 ha (by omega)
  have dk : Dd ((rows.set k V).set (k + 1) U) k = Dd rows k := Dd_swap h4 h hU hV (by omega) (by omega)
  have pk := hd k (by omega)
  have sw : Dd ((rows.set k V).set (k + 1) U) (k + 1) = Mu rows k V V := Dd_swapped hU hV
  have lkk : lam rows (k + 1) k = Mu rows k U V := lam_at hV hU
  have sy := syl k rows U
  have sy2 := syl k ((rows.set k V).set (k + 1) U) V
  refine ⟨?_, fun a ha hne => Dd_swap h4 h hU hV ha hne, fun j hj => ?_, fun j hj => ?_, lam_self g0, ?_, ?_, fun i hi hin => ?_, fun i hi hin => ?_, fun i j hi hj hc => ?_⟩
  · have e := sy V V (by omega) hU
    rw [← Dd_succ hU, ← Dd_succ hV, Mu_symm (x := V) (y := U) (by omega) (by omega), ← lkk] at e
    rw [sw]
    show Dd rows (k + 1) * Mu rows k V V = Dd rows k * Dd rows (k + 1 + 1) + _
    omega
  · obtain ⟨R, hR⟩ : ∃ R, rows[j]? = some R := ⟨_, List.getElem?_eq_getElem (by omega)⟩
    rw [lam_at g0 (gi (by omega) (by omega) hR), lam_at hV hR, tk (by omega)]
  · obtain ⟨R, hR⟩ : ∃ R, rows[j]? = some R := ⟨_, List.getElem?_eq_getElem (by omega)⟩
    rw [lam_at g1 (gi (by omega) (by omega) hR), lam_at hU hR, tk (by omega)]
  · rw [lam_at g1 g0, lam_at hV hU, tk (Nat.le_refl _), Mu_symm (by omega) (by omega)]
  · rw [lam_self g1, lam_self hV]
    exact Dd_swap h4 h hU hV (by omega) (by omega)
  · obtain ⟨S, hS⟩ : ∃ S, rows[i]? = some S := ⟨_, List.getElem?_eq_getElem (by omega)⟩
    have gS := gi (by omega) (by omega) hS
    rw [lam_at gS g1, lam_at hS hU, lam_at hS hV, lkk]
    have e1 := sy V S (by omega) hU
    have e2 := sy2 U S (by omega) g0
    have e3 := sy V V (by omega) hU
    rw [tk (Nat.le_refl _), tk (Nat.le_refl _), tk (Nat.le_refl _), tk (Nat.le_refl _), dk] at e2
    rw [Mu_symm (x := V) (y := U) (by omega) (by omega), ← Dd_succ hU] at e1 e3
    rw [← Dd_succ hV] at e3
    have key : Dd rows k * (Dd rows (k + 1) * Mu ((rows.set k V).set (k + 1) U) (k + 1) U S) = Dd rows k * (Dd rows (k + 2) * Mu rows k U S - Mu rows k U V * Mu rows (k + 1) V S) := by
      show _ = Dd rows k * (Dd rows (k + 1 + 1) * _ - _)
      generalize Mu ((rows.set k V).set (k + 1) U) (k + 1) U S = A at *
      generalize Mu rows (k + 1) V S = B at *
      generalize Dd rows (k + 1 + 1) = C at *
      grind
    exact Int.eq_of_mul_eq_mul_left (by omega) key
  · obtain ⟨S, hS⟩ : ∃ S, rows[i]? = some S := ⟨_, List.getElem?_eq_getElem (by omega)⟩
    have gS := gi (by omega) (by omega) hS
    rw [lam_at gS g0, lam_at gS g1, lam_at hS hV, lkk, sw, tk (Nat.le_refl _)]
    have e1 := sy V S (by omega) hU
    have e2 := sy2 U S (by omega) g0
    have e3 := sy V V (by omega) hU
    rw [tk (Nat.le_refl _), tk (Nat.le_refl _), tk (Nat.le_refl _), tk (Nat.le_refl _), dk] at e2
    rw [Mu_symm (x := V) (y := U) (by omega) (by omega), ← Dd_succ hU] at e1 e3
    rw [← Dd_succ hV] at e3
    have key : Dd rows k * (Dd rows (k + 2) * Mu rows k V S) = Dd rows k * (Mu rows k V V * Mu rows (k + 1) V S + Mu rows k U V * Mu ((rows.set k V).set (k + 1) U) (k + 1) U S) := by
      show Dd rows k * (Dd rows (k + 1 + 1) * _) = _
      generalize Mu ((rows.set k V).set (k + 1) U) (k + 1) U S = A at *
      generalize Mu rows (k + 1) V S = B at *
      generalize Dd rows (k + 1 + 1) = C at *
      grind
    exact Int.eq_of_mul_eq_mul_left (by omega) key
  · obtain ⟨R, hR⟩ : ∃ R, rows[j]? = some R := ⟨_, List.getElem?_eq_getElem (by omega)⟩
    obtain ⟨S, hS⟩ : ∃ S, rows[i]? = some S := ⟨_, List.getElem?_eq_getElem (by omega)⟩
    rcases hc with hc | ⟨h1, h2, h3⟩
    · rw [lam_at (gi (by omega) (by omega) hS) (gi (by omega) (by omega) hR), lam_at hS hR, tk (by omega)]
    · rw [lam_at (gi (by omega) (by omega) hS) (gi h2 h3 hR), lam_at hS hR]
      by_cases e : j < k
      · exact tk (by omega)
      · exact Mu_swap h4 (by omega) h (by omega) (by omega) hU hV
/-! ## shares and spans as lists of one's own -/
end L3
set_option pp.maxSteps 600
namespace L3
open PySem PySem.Spec PyProof.Rows L2
local macro_rules | `(tactic| wtm_at "sh") => `(tactic| conv => whnf)
/-- the whole multiple that a row is less by -/
def manyOf (rows : Mat) (k p : Nat) : Int := (2 * lam rows k p + Dd rows (p + 1)) / (2 * Dd rows (p + 1))
end L3
set_option pp.maxSteps 600
namespace L3
open PySem PySem.Spec PyProof.Rows L2
local macro_rules | `(tactic| wtm_at "sh") => `(tactic| conv => whnf)
/-- each right part's square is at most X -/
def RatB (n : Nat) (X : Int) (rows : Mat) : Prop := ∀ a, a < n → Dd rows (a + 1) ≤ X * Dd rows a
theorem mu_le {n : Nat} {rows : Mat} (h4 : n ≤ 4) (hs : Sq n n rows) (hd : ∀ a, a ≤ n → 0 < Dd rows a) {r : List Int} (hr : r.length = n) : ∀ a, a ≤ 3 → a < n → Mu rows a r r ≤ Dd rows a * dot r r
  | 0, _, _ => by rw [Mu_zero, Dd_zero]; omega
  | a + 1, ha, han => by
    have hl := hs.1
    have ih := mu_le h4 hs hd hr a (by omega) (by omega)
    obtain ⟨s, hs2⟩ : ∃ s, rows[a]? = some s := ⟨_, List.getElem?_eq_getElem (by omega)⟩
    have e := syl a rows s r r (by omega) hs2
    rw [← Dd_succ hs2, Mu_symm (x := r) (y := s) (by omega) (by omega)] at e
    have d0 := hd a (by omega)
    have d1 := hd (a + 1) (by omega)
    have p := sq_nonneg (Mu rows a s r)
    have m1 : Dd rows (a + 1) * Mu rows a r r ≤ Dd rows (a + 1) * (Dd rows a * dot r r) := Int.mul_le_mul_of_nonneg_left ih (by omega)
    have m2 : Dd rows a * Mu rows (a + 1) r r ≤ Dd rows a * (Dd rows (a + 1) * dot r r) := by
      have e3 : Dd rows a * (Dd rows (a + 1) * dot r r) = Dd rows (a + 1) * (Dd rows a * dot r r) := by grind
      omega
    exact Int.le_of_mul_le_mul_left m2 d0
theorem RatB.of {n : Nat} {X : Int} {rows : Mat} (h4 : n ≤ 4) (hs : Sq n n rows) (hd : ∀ a, a ≤ n → 0 < Dd rows a) (hX : ∀ r ∈ rows, dot r r ≤ X) : RatB n X rows := fun a ha => by
  obtain ⟨r, hr⟩ : ∃ s, rows[a]? = some s := ⟨_, List.getElem?_eq_getElem (by have := hs.1; omega)⟩
  have hm := List.mem_of_getElem? hr
  have := mu_le h4 hs hd (hs.2 r hm) a (by omega) ha
  rw [Dd_succ hr]
  have h2 := Int.mul_le_mul_of_nonneg_left (hX r hm) (Int.le_of_lt (hd a (by omega)))
  rw [Int.mul_comm X]; omega
theorem norm_dn {n k : Nat} {X : Int} {rows : Mat} {r : List Int} (h4 : n ≤ 4) (hs : Sq n n rows) (hd : ∀ a, a ≤ n → 0 < Dd rows a) (hR : RatB n X rows) (hk : k < n) (hr : rows[k]? = some r) (sh : ShB rows k) : ∀ c a, a + c = k → 4 * Mu rows a r r ≤ Dd rows a * ((4 + c) * X)
  | 0, a, h => by
    obtain rfl : a = k := by omega
    rw [← Dd_succ hr]
    have := hR a hk
    have e : Dd rows a * ((4 + (0 : Nat)) * X) = 4 * (X * Dd rows a) := by grind
    omega
  | c + 1, a, h => by
    have hl := hs.1
    have ih := norm_dn h4 hs hd hR hk hr sh c (a + 1) (by omega)
    obtain ⟨s, hs2⟩ : ∃ s, rows[a]? = some s := ⟨_, List.getElem?_eq_getElem (by omega)⟩
    have e := syl a rows s r r (by omega) hs2
    rw [← Dd_succ hs2, Mu_symm (x := r) (y := s) (by omega) (by omega), ← lam_at hr hs2] at e
    have b := sh a (by omega)
    have d1 := hd (a + 1) (by omega)
    have d0 := hd a (by omega)
    have l2 : 4 * (lam rows k a * lam rows k a) ≤ Dd rows (a + 1) * Dd rows (a + 1) := by
      rw [← Int.natAbs_mul_self (a := lam rows k a)]
      have h1 : (2 * (lam rows k a).natAbs) * (2 * (lam rows k a).natAbs) ≤ (Dd rows (a + 1)).natAbs * (Dd rows (a + 1)).natAbs := Nat.mul_le_mul (by omega) (by omega)
      have h2 := Int.natAbs_mul_self (a := Dd rows (a + 1))
      have h3 : (2 * (lam rows k a).natAbs) * (2 * (lam rows k a).natAbs) = 4 * ((lam rows k a).natAbs * (lam rows k a).natAbs) := by grind
      omega
    have m1 : Dd rows a * (4 * Mu rows (a + 1) r r) ≤ Dd rows a * (Dd rows (a + 1) * ((4 + (c : Nat)) * X)) := Int.mul_le_mul_of_nonneg_left ih (by omega)
    have m2 : Dd rows (a + 1) * Dd rows (a + 1) ≤ Dd rows (a + 1) * (X * Dd rows a) := Int.mul_le_mul_of_nonneg_left (hR a (by omega)) (by omega)
    have m3 : Dd rows (a + 1) * (4 * Mu rows a r r) ≤ Dd rows (a + 1) * (Dd rows a * ((4 + (c + 1 : Nat)) * X)) := by
      have e1 : Dd rows (a + 1) * (Dd rows a * ((4 + (c + 1 : Nat)) * X)) = Dd rows a * (Dd rows (a + 1) * ((4 + (c : Nat)) * X)) + Dd rows (a + 1) * (X * Dd rows a) := by
        have : ((c + 1 : Nat) : Int) = (c : Int) + 1 := by omega
        rw [this]; grind
      have e2 : Dd rows (a + 1) * (4 * Mu rows a r r) = 4 * (Dd rows (a + 1) * Mu rows a r r) := by grind
      have e3 : Dd rows a * (4 * Mu rows (a + 1) r r) = 4 * (Dd rows a * Mu rows (a + 1) r r) := by grind
      omega
    exact Int.le_of_mul_le_mul_left m3 d1
theorem norm_le2 {n k : Nat} {X : Int} {rows : Mat} {r : List Int} (h4 : n ≤ 4) (hs : Sq n n rows) (hd : ∀ a, a ≤ n → 0 < Dd rows a) (hR : RatB n X rows) (hk : k < n) (hr : rows[k]? = some r) (sh : ShB rows k) : dot r r ≤ 2 * X := by
  have h := norm_dn h4 hs hd hR hk hr sh k 0 (by omega)
  rw [Mu_zero, Dd_zero, Int.one_mul] at h
  have p := (dot_self r).1
  have hX : 0 ≤ X := by
    have r0 : Dd rows 1 ≤ X * Dd rows 0 := hR 0 (by omega)
    have d1 := hd 1 (by omega)
    rw [Dd_zero] at r0; omega
  have : (4 + (k : Nat) : Int) * X ≤ 8 * X := Int.mul_le_mul_of_nonneg_right (by omega) hX
  omega
theorem sz_of_norm {b : Nat} {X : Int} {r : List Int} (hX : 2 * X < 2 ^ (2 * b)) (h : dot r r ≤ 2 * X) : SzL b r := SzL.of fun a ha => by
  have h1 := dot_ge r a ha
  unfold Sz
  rcases Nat.lt_or_ge a.natAbs (2 ^ b) with c | c
  · exact c
  · exfalso
    have h2 : 2 ^ b * 2 ^ b ≤ a.natAbs * a.natAbs := Nat.mul_le_mul c c
    rw [← Nat.pow_add] at h2
    have h4 := Int.natAbs_mul_self (a := a)
    have h5 : ((2 ^ (b + b) : Nat) : Int) = (2 : Int) ^ (2 * b) := by rw [show 2 * b = b + b by omega]; simp
    omega
theorem dot_le {n c : Nat} {r : List Int} (h4 : n ≤ 4) (hr : r.length = n) (hz : SzL c r) : dot r r ≤ 2 ^ (2 * c + 2) := by
  have h := dot_sz (n := c) (k := c) r r (fun a h => hz.mem h) fun a h => hz.mem h
  rw [hr] at h
  have h2 : n * 2 ^ (c + c) ≤ 4 * 2 ^ (c + c) := Nat.mul_le_mul_right _ h4
  have e : ((2 ^ (2 * c + 2) : Nat) : Int) = (2 : Int) ^ (2 * c + 2) := by simp
  have e2 : 2 ^ (2 * c + 2) = 4 * 2 ^ (c + c) := by rw [show 2 * c + 2 = (c + c) + 2 by omega, Nat.pow_add]; omega
  omega
/-- the k-th row amid its cuts, t of them done -/
structure Mid (n b k t : Nat) (X : Int) (rows0 rows : Mat) : Prop where
  same : Same n rows0 rows
  rat : RatB n X rows
  szo : ∀ i r, i ≠ k → rows[i]? = some r → SzL b r
  szc : ∀ r, rows[k]? = some r → SzL (b + (n - k + t) * (8 * b + 24)) r
  sh : ∀ i, i < k → ShB rows i
  lo : ∀ j, j + 1 < k → standB rows j = true
  shk : ∀ j, j < k → k ≤ j + t → 2 * (lam rows k j).natAbs ≤ (Dd rows (j + 1)).natAbs
theorem Mid.pos {n b k t : Nat} {X : Int} {rows0 rows : Mat} (h4 : n ≤ 4) (hd0 : detN n rows0 ≠ 0) (h : Mid n b k t X rows0 rows) : ∀ a, a ≤ n → 0 < Dd rows a := Dd_pos h4 h.same.sq (by have := h.same.dt; omega)
theorem Mid.all {n b k t : Nat} {X : Int} {rows0 rows : Mat} (h : Mid n b k t X rows0 rows) : ∀ r ∈ rows, SzL (b + (n - k + t) * (8 * b + 24)) r := fun r hr => by
  obtain ⟨i, hi⟩ := List.getElem?_of_mem hr
  by_cases c : i = k
  · subst c; exact h.szc r hi
  · exact (h.szo i r c hi).mono (by omega)
theorem Mid.step {n b k t p : Nat} {X : Int} {rows0 rows : Mat} {U V : List Int} (h4 : n ≤ 4) (h0 : Sq n n rows0) (hd0 : detN n rows0 ≠ 0) (h : Mid n b k t X rows0 rows) (hk : k < n) (hp : p + t + 1 = k) (hU : rows[k]? = some U) (hV : rows[p]? = some V) :
    Mid n b k (t + 1) X rows0 (rows.set k (vAdd U (-manyOf rows k p) V)) ∧ pot n (rows.set k (vAdd U (-manyOf rows k p) V)) = pot n rows := by
  have sq := h.same.sq
  have hl := sq.1
  have hd := h.pos h4 hd0
  have lU := sq.2 U (List.mem_of_getElem? hU)
  have lV := sq.2 V (List.mem_of_getElem? hV)
  have zU := h.szc U hU
  have zV := h.szo p V (by omega) hV
  have d0 := hd (p + 1) (by omega)
  have dd : ∀ a, a ≤ n → Dd (rows.set k (vAdd U (-manyOf rows k p) V)) a = Dd rows a := fun a ha => Dd_add h4 sq (by omega) hU hV ha
  have kp : ∀ i, i < k → (rows.set k (vAdd U (-manyOf rows k p) V))[i]? = rows[i]? := fun i hi => by rw [List.getElem?_set_ne (by omega)]
  have zt : ∀ r ∈ rows.take p, SzL b r := fun r hr => by
    obtain ⟨i, hi⟩ := List.getElem?_of_mem hr
    have hip : i < p := by have := (List.getElem?_eq_some_iff.mp hi).1; rw [List.length_take] at this; omega
    rw [List.getElem?_take, if_pos hip] at hi
    exact h.szo i r (by omega) hi
  have zl : Sz (7 * b + (b + (n - k + t) * (8 * b + 24)) + 19) (lam rows k p) := by
    rw [lam_at hU hV]
    exact Mu_Sz2 h4 sq (by omega) (by omega) zt lV lU zV zU
  have zd : Sz (8 * b + 21) (Dd rows (p + 1)) := by
    rw [Dd_succ hV]
    exact (Mu_Sz2 h4 sq (by omega) (by omega) zt lV lV zV zV).mono (by omega)
  have zm : Sz (7 * b + (b + (n - k + t) * (8 * b + 24)) + 22) (manyOf rows k p) := by
    unfold manyOf
    refine Sz.le (j := 2 * lam rows k p + Dd rows (p + 1)) ?_ (by rw [← Int.fdiv_eq_ediv_of_nonneg _ (by omega)]; exact fdiv_le)
    have s1 : Sz (2 + (7 * b + (b + (n - k + t) * (8 * b + 24)) + 19)) (2 * lam rows k p) := (show Sz 2 2 by unfold Sz; decide).mul zl
    exact ((s1.mono (m := 7 * b + (b + (n - k + t) * (8 * b + 24)) + 21) (by omega)).add (zd.mono (by omega))).mono (by omega)
  refine ⟨⟨h.same.trans h0 (Same.add _ h4 sq (show k ≠ p by omega) hU hV), fun a ha => by rw [dd _ (by omega), dd _ (by omega)]; exact h.rat a ha, fun i r hi hr => ?_, fun r hr => ?_, fun i hi j hj => ?_, fun j hj => ?_, fun j hj hjt => ?_⟩, sumR_congr fun a ha => dd a (by omega)⟩
  · rw [List.getElem?_set_ne (by omega)] at hr
    exact h.szo i r hi hr
  · rw [List.getElem?_set_self (by omega)] at hr
    cases hr
    intro c
    rw [vAdd_getD (by omega)]
    have s1 := zm.neg.mul (zV c)
    have e : (n - k + (t + 1)) * (8 * b + 24) = (n - k + t) * (8 * b + 24) + (8 * b + 24) := by rw [show n - k + (t + 1) = (n - k + t) + 1 by omega, Nat.add_mul, Nat.one_mul]
    exact (((zU c).mono (show b + (n - k + t) * (8 * b + 24) ≤ 7 * b + (b + (n - k + t) * (8 * b + 24)) + 22 + b by omega)).add s1).mono (by rw [e]; omega)
  · rw [lam_congr kp hi (by omega), dd _ (by omega)]
    exact h.sh i hi j hj
  · have := h.lo j hj
    unfold standB at this ⊢
    rw [dd _ (by omega), dd _ (by omega), dd _ (by omega), lam_congr kp hj (by omega)]
    exact this
  · rw [lam_cut h4 sq (by omega) hj hU hV, dd _ (by omega)]
    by_cases e : j = p
    · subst e
      rw [lam_self hV]
      exact half_cut d0
    · rw [lam_zero h4 sq (show p < j by omega) (by omega), Int.mul_zero, Int.sub_zero]
      exact h.shk j hj (by omega)
theorem Mid.full {n b k t : Nat} {X : Int} {rows0 rows : Mat} (h4 : n ≤ 4) (hd0 : detN n rows0 ≠ 0) (hX : 2 * X < 2 ^ (2 * b)) (h : Mid n b k t X rows0 rows) (hk : k < n) (ht : k ≤ t) : ShB rows k ∧ ∀ r, rows[k]? = some r → SzL b r := by
  have sh : ShB rows k := fun j hj => h.shk j hj (by omega)
  exact ⟨sh, fun r hr => sz_of_norm hX (norm_le2 h4 h.same.sq (h.pos h4 hd0) h.rat hk hr sh)⟩
theorem Mid.on {n b k t : Nat} {X : Int} {rows0 rows : Mat} (h4 : n ≤ 4) (hd0 : detN n rows0 ≠ 0) (hX : 2 * X < 2 ^ (2 * b)) (h : Mid n b k t X rows0 rows) (hk : k < n) (ht : k ≤ t) (hs : ∀ j, j + 1 = k → standB rows j = true) : Mid n b (k + 1) 0 X rows0 rows := by
  obtain ⟨sh, zk⟩ := h.full h4 hd0 hX hk ht
  have all : ∀ i r, rows[i]? = some r → SzL b r := fun i r hr => by
    by_cases c : i = k
    · subst c; exact zk r hr
    · exact h.szo i r c hr
  refine ⟨h.same, h.rat, fun i r _ hr => all i r hr, fun r hr => (all _ r hr).mono (by omega), fun i hi => ?_, fun j hj => ?_, fun j _ hj => by omega⟩
  · by_cases c : i = k
    · subst c; exact sh
    · exact h.sh i (by omega)
  · by_cases c : j + 1 = k
    · exact hs j c
    · exact h.lo j (by omega)
theorem Mid.swapped {n b k : Nat} {X : Int} {rows0 rows : Mat} {U V : List Int} (h4 : n ≤ 4) (h0 : Sq n n rows0) (hd0 : detN n rows0 ≠ 0) (hX : 2 * X < 2 ^ (2 * b)) (h : Mid n b (k + 1) 1 X rows0 rows) (hk : k + 1 < n) (hU : rows[k]? = some U) (hV : rows[k + 1]? = some V) (hs : standB rows k = false) (at_ : Nat) (ha : at_ = max 1 k) :
    Mid n b at_ 0 X rows0 ((rows.set k V).set (k + 1) U) ∧ pot n ((rows.set k V).set (k + 1) U) < pot n rows := by
  have sq := h.same.sq
  have hl := sq.1
  have hd := h.pos h4 hd0
  have E := exch h4 sq hd hk hU hV
  have S := h.same.trans h0 (Same.swap h4 sq (by omega) hU hV)
  have hd' : ∀ a, a ≤ n → 0 < Dd ((rows.set k V).set (k + 1) U) a := Dd_pos h4 S.sq (by have := S.dt; omega)
  have d0 := hd k (by omega)
  have d1 := hd (k + 1) (by omega)
  have d2 := hd (k + 2) (by omega)
  have d1' := hd' (k + 1) (by omega)
  have kp : ∀ i, i < k → ((rows.set k V).set (k + 1) U)[i]? = rows[i]? := fun i hi => by rw [List.getElem?_set_ne (by omega), List.getElem?_set_ne (by omega)]
  have g1 : ((rows.set k V).set (k + 1) U)[k + 1]? = some U := List.getElem?_set_self (by rw [List.length_set]; omega)
  have g0 : ((rows.set k V).set (k + 1) U)[k]? = some V := by rw [List.getElem?_set_ne (by omega), List.getElem?_set_self (by omega)]
  have gi : ∀ i r, i ≠ k → i ≠ k + 1 → ((rows.set k V).set (k + 1) U)[i]? = some r → rows[i]? = some r := fun i r c1 c2 hr => by rw [List.getElem?_set_ne (by omega), List.getElem?_set_ne (by omega)] at hr; exact hr
  have zU := h.szo k U (by omega) hU
  have p := sq_nonneg (lam rows (k + 1) k)
  have lt : Dd ((rows.set k V).set (k + 1) U) (k + 1) < Dd rows (k + 1) := by
    unfold standB at hs
    have hs2 := of_decide_eq_false hs
    rcases Int.lt_or_le (Dd ((rows.set k V).set (k + 1) U) (k + 1)) (Dd rows (k + 1)) with c | c
    · exact c
    · exfalso
      apply hs2
      have m1 : Dd rows (k + 1) * Dd rows (k + 1) ≤ Dd rows (k + 1) * Dd ((rows.set k V).set (k + 1) U) (k + 1) := Int.mul_le_mul_of_nonneg_left c (by omega)
      have m2 := Int.mul_comm (Dd rows k) (Dd rows (k + 2))
      have m3 : 3 * Dd rows (k + 1) * Dd rows (k + 1) = 3 * (Dd rows (k + 1) * Dd rows (k + 1)) := Int.mul_assoc ..
      have p2 := sq_nonneg (Dd rows (k + 1))
      have e := E.sp
      omega
  refine ⟨⟨S, fun a ha2 => ?_, fun i r hi hr => ?_, fun r hr => ?_, fun i hi j hj => ?_, fun j hj => ?_, fun j _ hj => by omega⟩, pot_lt (k := k + 1) (fun a ha hne => E.dd a (by omega) hne) hk lt⟩
  · by_cases c : a = k
    · subst c
      rw [E.dd a (by omega) (by omega)]
      have := h.rat a (by omega)
      omega
    · by_cases c2 : a = k + 1
      · subst c2
        rw [E.dd (k + 1 + 1) (by omega) (by omega)]
        have r0 := h.rat k (by omega)
        have e := E.sp
        have m1 : Dd rows (k + 1) * Dd ((rows.set k V).set (k + 1) U) (k + 1) ≤ X * Dd rows k * Dd ((rows.set k V).set (k + 1) U) (k + 1) := Int.mul_le_mul_of_nonneg_right r0 (by omega)
        have m2 : Dd rows k * Dd rows (k + 2) ≤ Dd rows k * (X * Dd ((rows.set k V).set (k + 1) U) (k + 1)) := by
          have e3 : X * Dd rows k * Dd ((rows.set k V).set (k + 1) U) (k + 1) = Dd rows k * (X * Dd ((rows.set k V).set (k + 1) U) (k + 1)) := by grind
          omega
        exact Int.le_of_mul_le_mul_left m2 d0
      · rw [E.dd _ (by omega) (by omega), E.dd _ (by omega) (by omega)]
        exact h.rat a ha2
  · by_cases c1 : i = k
    · subst c1
      rw [g0] at hr
      cases hr
      obtain rfl : i = 0 := by omega
      exact (h.full h4 hd0 hX (by omega) (Nat.le_refl _)).2 V hV
    · by_cases c2 : i = k + 1
      · subst c2
        rw [g1] at hr
        cases hr
        exact zU
      · exact h.szo i r c2 (gi i r c1 c2 hr)
  · by_cases c1 : k = 0
    · subst c1
      obtain rfl : at_ = 1 := by omega
      rw [g1] at hr
      cases hr
      exact zU.mono (by omega)
    · obtain rfl : at_ = k := by omega
      rw [g0] at hr
      cases hr
      have := h.szc V hV
      rw [show n - (at_ + 1) + 1 = n - at_ + 0 by omega] at this
      exact this
  · by_cases c : i < k
    · rw [lam_congr kp c (by omega), E.dd _ (by omega) (by omega)]
      exact h.sh i (by omega) j hj
    · omega
  · have := h.lo j (by omega)
    have hjk : j + 1 < k := by omega
    unfold standB at this ⊢
    rw [E.dd _ (by omega) (by omega), E.dd _ (by omega) (by omega), E.dd _ (by omega) (by omega), lam_congr kp hjk (by omega)]
    exact this
end L3
set_option pp.maxSteps 600
namespace L3
open PySem PySem.Spec PyProof.Rows L2
local macro_rules | `(tactic| wtm_at "sh") => `(tactic| conv => whnf)
end L3
set_option pp.maxSteps 600
namespace L3
open PySem PySem.Spec PyProof.Rows L2
local macro_rules | `(tactic| wtm_at "sh") => `(tactic| conv => whnf)
/-! ## determinants of lists of rows -/
end L3
set_option pp.maxSteps 600
namespace L3
open PySem PySem.Spec PyProof.Rows L2
local macro_rules | `(tactic| wtm_at "sh") => `(tactic| conv => whnf)
/-! ## rows turned back: what tells a row's multiple -/
theorem dot_sumR : ∀ (n : Nat) (x y : List Int), x.length = n → y.length = n → dot x y = sumR n fun k => x.getD k 0 * y.getD k 0
  | 0, [], [], _, _ => rfl
  | n + 1, x, y, hx, hy => by
    have go : ∀ (m : Nat) (x y : List Int), m = x.length → x.length = y.length → ∀ a b : Int, dot (x ++ [a]) (y ++ [b]) = dot x y + a * b := by
      intro m x y _ h a b
      induction x generalizing y m with
      | nil => cases y with | nil => simp [dot] | cons _ _ => cases h
      | cons p x ih => cases y with
        | nil => cases h
        | cons q y =>
          show p * q + dot (x ++ [a]) (y ++ [b]) = p * q + dot x y + a * b
          rw [ih _ y rfl (Nat.succ.inj h)]; omega
    have ex : x = x.take n ++ [x.getD n 0] := by
      refine List.ext_getElem? fun c => ?_
      rw [List.getElem?_append, List.length_take]
      by_cases hc : c < n
      · rw [if_pos (by omega), List.getElem?_take, if_pos hc]
      · by_cases e : c = n
        · subst e
          rw [if_neg (by omega), show c - min c x.length = 0 by omega, List.getD_eq_getElem?_getD, List.getElem?_eq_getElem (by omega)]; rfl
        · rw [if_neg (by omega), List.getElem?_eq_none (by omega), List.getElem?_eq_none (by simp; omega)]
    have ey : y = y.take n ++ [y.getD n 0] := by
      refine List.ext_getElem? fun c => ?_
      rw [List.getElem?_append, List.length_take]
      by_cases hc : c < n
      · rw [if_pos (by omega), List.getElem?_take, if_pos hc]
      · by_cases e : c = n
        · subst e
          rw [if_neg (by omega), show c - min c y.length = 0 by omega, List.getD_eq_getElem?_getD, List.getElem?_eq_getElem (by omega)]; rfl
        · rw [if_neg (by omega), List.getElem?_eq_none (by omega), List.getElem?_eq_none (by simp; omega)]
    have h := go _ (x.take n) (y.take n) rfl (by rw [List.length_take, List.length_take]; omega) (x.getD n 0) (y.getD n 0)
    rw [← ex, ← ey] at h
    rw [h, dot_sumR n (x.take n) (y.take n) (by rw [List.length_take]; omega) (by rw [List.length_take]; omega)]
    show _ = sumR n _ + _
    congr 1
    refine sumR_congr fun k hk => ?_
    rw [List.getD_eq_getElem?_getD, List.getD_eq_getElem?_getD, List.getElem?_take, if_pos hk, List.getElem?_take, if_pos hk, List.getD_eq_getElem?_getD, List.getD_eq_getElem?_getD]
theorem Sq.erase {n i : Nat} {rows : Mat} (hs : Sq n n rows) (hi : i < n) : Sq (n - 1) n (rows.eraseIdx i) := ⟨by rw [List.length_eraseIdx, hs.1, if_pos hi], fun r hr => hs.2 r (List.mem_of_mem_eraseIdx hr)⟩
end L3
set_option pp.maxSteps 600
namespace L3
open PySem PySem.Spec PyProof.Rows L2
local macro_rules | `(tactic| wtm_at "sh") => `(tactic| conv => whnf)
/-! ## multiples within bounds -/
/-- what is known of the bounds behind i places -/
def StI (s r lo hi : List Int) (i : Nat) : Option (Int × Int) → Prop
  | none => ∀ j, j < i → r.getD j 0 = 0 ∧ lo.getD j 0 ≤ s.getD j 0 ∧ s.getD j 0 ≤ hi.getD j 0
  | some p => (∃ j, j < i ∧ r.getD j 0 ≠ 0) ∧ ∀ m, (∀ j, j < i → lo.getD j 0 ≤ s.getD j 0 + m * r.getD j 0 ∧ s.getD j 0 + m * r.getD j 0 ≤ hi.getD j 0) ↔ p.1 ≤ m ∧ m ≤ p.2
def nextO (o : Option (Int × Int)) (f l : Int) : Option (Int × Int) := some (match o with | none => (f, l) | some p => (max p.1 f, min p.2 l))
theorem StI.step {s r lo hi : List Int} {i : Nat} {o : Option (Int × Int)} {f l : Int} (h : StI s r lo hi i o) (hr : r.getD i 0 ≠ 0) (hb : ∀ m, (lo.getD i 0 ≤ s.getD i 0 + m * r.getD i 0 ∧ s.getD i 0 + m * r.getD i 0 ≤ hi.getD i 0) ↔ f ≤ m ∧ m ≤ l) : StI s r lo hi (i + 1) (nextO o f l) := by
  refine ⟨⟨i, by omega, hr⟩, fun m => ?_⟩
  cases o with
  | none =>
    refine ⟨fun k => (hb m).mp (k i (by omega)), fun k j hj => ?_⟩
    by_cases c : j = i
    · subst c; exact (hb m).mpr k
    · obtain ⟨h1, h2⟩ := h j (by omega)
      rw [h1, Int.mul_zero, Int.add_zero]; exact h2
  | some p =>
    obtain ⟨_, h2⟩ := h
    show _ ↔ max p.1 f ≤ m ∧ m ≤ min p.2 l
    have h2 := h2 m
    have hb := hb m
    refine ⟨fun k => ?_, fun k j hj => ?_⟩
    · have a1 := h2.mp fun j hj => k j (by omega)
      have a2 := hb.mp (k i (by omega))
      omega
    · by_cases c : j = i
      · subst c; exact hb.mpr (by omega)
      · exact h2.mpr (by omega) j (by omega)
end L3
set_option pp.maxSteps 600
namespace L3
open PySem PySem.Spec PyProof.Rows L2
/-! ## all sums within bounds: the plain law -/
/-- what tells a row's multiple, times the determinant -/
def Fd (n : Nat) (rows : Mat) (i : Nat) (x : List Int) : Int := detN n (rows.set i x)
theorem getD_some {rows : Mat} {k : Nat} (h : k < rows.length) : rows[k]? = some (rows.getD k []) := by
  rw [List.getD_eq_getElem?_getD, List.getElem?_eq_getElem h]; rfl
theorem Sq.getD {m n k : Nat} {rows : Mat} (hs : Sq m n rows) (h : k < m) : (rows.getD k []).length = n := hs.2 _ (getD_mem (by rw [hs.1]; exact h))
theorem Fd_lin {n i : Nat} {rows : Mat} {x y : List Int} {m : Int} (hs : Sq n n rows) (hi : i < n) (hx : x.length = n) (hy : y.length = n) : Fd n rows i (vAdd x m y) = Fd n rows i x + m * Fd n rows i y := det_lin n rows i x y m hs hi hx hy
theorem Fd_row {n i j : Nat} {rows : Mat} (h4 : n ≤ 4) (hs : Sq n n rows) (hi : i < n) (hj : j < n) : Fd n rows i (rows.getD j []) = if i = j then detN n rows else 0 := by
  have hl := hs.1
  unfold Fd
  by_cases c : i = j
  · subst c
    rw [if_pos rfl, set_same (getD_some (by omega))]
  · rw [if_neg c]
    exact det_alt' h4 (hs.set (hs.getD hj)) c (List.getElem?_set_self (by omega)) (by rw [List.getElem?_set_ne c]; exact getD_some (by omega))
theorem Fd_zero {n i : Nat} {rows : Mat} (hs : Sq n n rows) (hi : i < n) : Fd n rows i (List.replicate n 0) = 0 := det_zero_row hs hi
theorem Fd_inj {n : Nat} {rows : Mat} {x y : List Int} (h4 : n ≤ 4) (hs : Sq n n rows) (hd : detN n rows ≠ 0) (hx : x.length = n) (hy : y.length = n) (h : ∀ i, i < n → Fd n rows i x = Fd n rows i y) : x = y := getD_ext hx hy fun c hc => by
  have e1 := cramer n rows x h4 hs hx c hc
  have e2 := cramer n rows y h4 hs hy c hc
  have e3 : (sumR n fun i => detN n (rows.set i x) * (rows.getD i []).getD c 0) = sumR n fun i => detN n (rows.set i y) * (rows.getD i []).getD c 0 := sumR_congr fun i hi => by
    have := h i hi
    unfold Fd at this
    rw [this]
  rw [e3, ← e2] at e1
  exact Int.eq_of_mul_eq_mul_left hd e1
def sufC (n : Nat) (rows : Mat) (c : Nat → Int) : Nat → List Int
  | 0 => List.replicate n 0
  | t + 1 => vAdd (sufC n rows c t) (c (n - 1 - t)) (rows.getD (n - 1 - t) [])
theorem sufC_len {n : Nat} {rows : Mat} {c : Nat → Int} (hs : Sq n n rows) : ∀ t, t ≤ n → (sufC n rows c t).length = n
  | 0, _ => List.length_replicate
  | t + 1, h => vAdd_len (sufC_len hs t (by omega)) (hs.getD (by omega))
theorem Fd_suf {n i : Nat} {rows : Mat} {c : Nat → Int} (h4 : n ≤ 4) (hs : Sq n n rows) (hi : i < n) : ∀ t, t ≤ n → Fd n rows i (sufC n rows c t) = if n - t ≤ i then c i * detN n rows else 0
  | 0, _ => by rw [if_neg (by omega)]; exact Fd_zero hs hi
  | t + 1, h => by
    show Fd n rows i (vAdd _ _ _) = _
    have e1 := Fd_suf (c := c) h4 hs hi t (by omega)
    have e2 := Fd_row (j := n - 1 - t) h4 hs hi (by omega)
    rw [Fd_lin hs hi (sufC_len hs t (by omega)) (hs.getD (by omega))]
    by_cases e : i = n - 1 - t
    · have g1 : ¬ n - t ≤ i := by omega
      have g2 : n - (t + 1) ≤ i := by omega
      rw [if_neg g1] at e1
      rw [if_pos e] at e2
      rw [if_pos g2, e1, e2, ← e]; omega
    · rw [if_neg e] at e2
      rw [e2, Int.mul_zero, Int.add_zero, e1]
      by_cases e2 : n - t ≤ i
      · have g2 : n - (t + 1) ≤ i := by omega
        rw [if_pos e2, if_pos g2]
      · have g2 : ¬ n - (t + 1) ≤ i := by omega
        rw [if_neg e2, if_neg g2]
/-! ### the stretch of the first row's multiples -/
end L3
set_option pp.maxSteps 600
namespace L3
open PySem PySem.Spec PyProof.Rows L2
local macro_rules | `(tactic| wtm_at "sh") => `(tactic| conv => whnf)
/-! ## all sums within bounds: the walk -/
end L3
set_option pp.maxSteps 600
namespace L3
open PySem PySem.Spec PyProof.Rows L2
/-! ## how great the multiples of short rows are -/
theorem mu_cs {n k : Nat} {rows : Mat} {x r : List Int} (h4 : n ≤ 4) (hs : Sq n n rows) (hd : ∀ a, a ≤ n → 0 < Dd rows a) (hk : k < n) (hx : x.length = n) (hr : r.length = n) (hp : 0 < Mu rows k r r) : Mu rows k x r * Mu rows k x r ≤ Mu rows k r r * Mu rows k x x := by
  have hl := hs.1
  have lx : (x.map (Mu rows k r r * ·)).length = n := by rw [List.length_map, hx]
  have lz : (vAdd (x.map (Mu rows k r r * ·)) (-Mu rows k x r) r).length = n := vAdd_len lx hr
  have h := mu_pos' h4 hs hd hk lz
  rw [Mu_linL (by omega) (by omega), Mu_linR (by omega) (by omega) (by omega), Mu_linR (by omega) (by omega) (by omega), Mu_scaleL (by omega), Mu_scaleR (by omega) (by omega), Mu_scaleL (by omega), Mu_scaleR (by omega) (by omega), Mu_symm (x := r) (y := x) (by omega) (by omega)] at h
  generalize Mu rows k r r = D at *
  generalize Mu rows k x r = M at *
  generalize Mu rows k x x = N at *
  have e : D * (D * N) + -M * (D * M) + -M * (D * M + -M * D) = D * (D * N - M * M) := by grind
  rw [e] at h
  rcases Int.lt_or_le (D * N - M * M) 0 with c | c
  · have := Int.mul_neg_of_pos_of_neg hp c
    omega
  · omega
theorem Mu_suf {n k : Nat} {rows : Mat} {c : Nat → Int} (h4 : n ≤ 4) (hs : Sq n n rows) (hk : k < n) : ∀ t, t ≤ n - k → Mu rows k (sufC n rows c t) (rows.getD k []) = sumR t fun u => c (n - 1 - u) * lam rows (n - 1 - u) k
  | 0, _ => by
    have hl := hs.1
    show Mu rows k (List.replicate n 0) _ = 0
    have e : (List.replicate n (0 : Int)) = (List.replicate n (0 : Int)).map (0 * ·) := by simp
    rw [e, Mu_scaleL (by omega), Int.zero_mul]
  | t + 1, h => by
    have hl := hs.1
    show Mu rows k (vAdd _ _ _) _ = sumR t _ + _
    rw [Mu_linL (by omega) (by rw [sufC_len hs t (by omega), hs.getD (by omega)]), Mu_suf h4 hs hk t (by omega), Mu_symm (x := rows.getD (n - 1 - t) []) (by omega) (by omega)]
    rfl
theorem Mu_sufAll {n k : Nat} {rows : Mat} {c : Nat → Int} (h4 : n ≤ 4) (hs : Sq n n rows) (hk : k < n) : ∀ t, t ≤ k → Mu rows k (sufC n rows c (n - k + t)) (rows.getD k []) = Mu rows k (sufC n rows c (n - k)) (rows.getD k [])
  | 0, _ => rfl
  | t + 1, h => by
    have hl := hs.1
    show Mu rows k (vAdd (sufC n rows c (n - k + t)) (c (n - 1 - (n - k + t))) (rows.getD (n - 1 - (n - k + t)) [])) _ = _
    rw [Mu_linL (by omega) (by rw [sufC_len hs _ (by omega), hs.getD (by omega)]), Mu_sufAll h4 hs hk t (by omega), Mu_altL (i := n - 1 - (n - k + t)) (by omega) (by omega) (by omega) (getD_some (by omega)), Int.mul_zero, Int.add_zero]
theorem scale_suf {n : Nat} {rows : Mat} {x : List Int} (h4 : n ≤ 4) (hs : Sq n n rows) (hd : detN n rows ≠ 0) (hx : x.length = n) : x.map (detN n rows * ·) = sufC n rows (fun i => Fd n rows i x) n := by
  refine Fd_inj h4 hs hd (by rw [List.length_map, hx]) (sufC_len hs n (Nat.le_refl _)) fun i hi => ?_
  rw [Fd_suf h4 hs hi n (Nat.le_refl _), if_pos (by omega)]
  show detN n (rows.set i _) = _
  rw [det_scale _ hs hi hx, Int.mul_comm]; rfl
theorem Fd_mu {n k : Nat} {rows : Mat} {x : List Int} (h4 : n ≤ 4) (hs : Sq n n rows) (hd : detN n rows ≠ 0) (hk : k < n) (hx : x.length = n) : detN n rows * Mu rows k x (rows.getD k []) = (sumR (n - 1 - k) fun u => Fd n rows (n - 1 - u) x * lam rows (n - 1 - u) k) + Fd n rows k x * Dd rows (k + 1) := by
  have hl := hs.1
  have e := Mu_scaleL (rows := rows) (a := k) (x := x) (y := rows.getD k []) (k := detN n rows) (by omega)
  rw [scale_suf h4 hs hd hx] at e
  have e2 := Mu_sufAll (c := fun i => Fd n rows i x) h4 hs hk k (Nat.le_refl _)
  rw [show n - k + k = n by omega] at e2
  rw [← e, e2, Mu_suf h4 hs hk _ (Nat.le_refl _), show n - k = (n - 1 - k) + 1 by omega]
  show sumR _ _ + _ = _
  congr 1
  show Fd n rows (n - 1 - (n - 1 - k)) x * lam rows (n - 1 - (n - 1 - k)) k = _
  rw [show n - 1 - (n - 1 - k) = k by omega, lam_self (getD_some (by omega))]
end L3
set_option pp.maxSteps 600
namespace L3
open PySem PySem.Spec PyProof.Rows L2
/-! ## cubes of short rows -/
def Cube (s : Int) (x : List Int) : Prop := ∀ a ∈ x, (a.natAbs : Int) ≤ s
theorem rep_getD {n j : Nat} {a : Int} (h : j < n) : (List.replicate n a).getD j 0 = a := by
  rw [List.getD_eq_getElem?_getD, List.getElem?_replicate, if_pos h]; rfl
/-! ### the spans of short rows fall slowly -/
theorem lov_step {n k : Nat} {rows : Mat} (hp : ∀ a, a ≤ n → 0 < Dd rows a) (sh : ∀ i, i < n → ShB rows i) (lo : ∀ k, k + 1 < n → standB rows k = true) (hk : k + 1 < n) : Dd rows (k + 1) * Dd rows (k + 1) ≤ 2 * (Dd rows (k + 2) * Dd rows k) := by
  have h := lo k hk
  unfold standB at h
  have h := of_decide_eq_true h
  have b := sh (k + 1) hk k (by omega)
  have d := hp (k + 1) (by omega)
  have l2 : 4 * (lam rows (k + 1) k * lam rows (k + 1) k) ≤ Dd rows (k + 1) * Dd rows (k + 1) := by
    rw [← Int.natAbs_mul_self (a := lam rows (k + 1) k)]
    have h1 : (2 * (lam rows (k + 1) k).natAbs) * (2 * (lam rows (k + 1) k).natAbs) ≤ (Dd rows (k + 1)).natAbs * (Dd rows (k + 1)).natAbs := Nat.mul_le_mul (by omega) (by omega)
    have h2 := Int.natAbs_mul_self (a := Dd rows (k + 1))
    have h3 : (2 * (lam rows (k + 1) k).natAbs) * (2 * (lam rows (k + 1) k).natAbs) = 4 * ((lam rows (k + 1) k).natAbs * (lam rows (k + 1) k).natAbs) := by grind
    omega
  rw [Int.mul_assoc] at h
  omega
theorem lov1 {n : Nat} {rows : Mat} (hp : ∀ a, a ≤ n → 0 < Dd rows a) (sh : ∀ i, i < n → ShB rows i) (lo : ∀ k, k + 1 < n → standB rows k = true) : ∀ k, k < n → Dd rows k * Dd rows 1 ≤ 2 ^ k * Dd rows (k + 1)
  | 0, _ => by rw [Dd_zero]; simp
  | k + 1, hk => by
    have ih := lov1 hp sh lo k (by omega)
    have st := lov_step hp sh lo hk
    have d0 := hp k (by omega)
    have d1 := hp (k + 1) (by omega)
    have g1 : Dd rows (k + 1) * (Dd rows k * Dd rows 1) ≤ Dd rows (k + 1) * (2 ^ k * Dd rows (k + 1)) := Int.mul_le_mul_of_nonneg_left ih (Int.le_of_lt d1)
    have g2 : (2 : Int) ^ k * (Dd rows (k + 1) * Dd rows (k + 1)) ≤ 2 ^ k * (2 * (Dd rows (k + 2) * Dd rows k)) := Int.mul_le_mul_of_nonneg_left st (Int.le_of_lt (Int.pow_pos (by decide)))
    have g3 : Dd rows k * (Dd rows (k + 1) * Dd rows 1) ≤ Dd rows k * (2 ^ (k + 1) * Dd rows (k + 2)) := by
      have e1 : Dd rows k * (2 ^ (k + 1) * Dd rows (k + 2)) = 2 ^ k * (2 * (Dd rows (k + 2) * Dd rows k)) := by rw [Int.pow_succ]; grind
      have e2 : Dd rows k * (Dd rows (k + 1) * Dd rows 1) = Dd rows (k + 1) * (Dd rows k * Dd rows 1) := by grind
      have e3 : Dd rows (k + 1) * (2 ^ k * Dd rows (k + 1)) = 2 ^ k * (Dd rows (k + 1) * Dd rows (k + 1)) := by grind
      omega
    exact Int.le_of_mul_le_mul_left g3 d0
end L3
set_option pp.maxSteps 600
namespace L3
open PySem PySem.Spec PyProof.Rows L2
/-! ## the greatest number of a row; two ways that a cube is fit -/
def nrm (x : List Int) : Int := maxL (x.map fun a => (a.natAbs : Int))
def eS : Nat → Nat
  | 0 => 106 | 1 => 76 | 2 => 56 | _ => 48
end L3
set_option pp.maxSteps 600
namespace L3
open PySem PySem.Spec PyProof.Rows L2
local macro_rules | `(tactic| wtm_at "sh") => `(tactic| conv => whnf)
/-! ## the least of pairs, the order of rows -/
def sLt (x y : List Int) : Prop := nrm x < nrm y ∨ (nrm x = nrm y ∧ x < y)
theorem sLt_irrefl (x : List Int) : ¬ sLt x x := by
  rintro (h | ⟨_, h⟩)
  · omega
  · exact List.lt_irrefl _ h
theorem sLt_trans {x y z : List Int} (h : sLt x y) (k : sLt y z) : sLt x z := by
  rcases h with h | ⟨h, h2⟩ <;> rcases k with k | ⟨k, k2⟩
  · exact .inl (by omega)
  · exact .inl (by omega)
  · exact .inl (by omega)
  · exact .inr ⟨by omega, List.lt_trans h2 k2⟩
end L3
set_option pp.maxSteps 600
namespace L3
open PySem PySem.Spec PyProof.Rows L2
local macro_rules | `(tactic| wtm_at "sh") => `(tactic| conv => whnf)
/-! ## the shortest row, all rows to a size -/
theorem Same.iff {n : Nat} {rows0 rows : Mat} {x : List Int} (h0 : Sq n n rows0) (h : Same n rows0 rows) : Span n rows x ↔ Span n rows0 x := ⟨fun k => k.trans h0 h.sq h.sp, fun k => k.trans h.sq h0 h.ps⟩
/-! ### rows in order -/
def SortedL (L : Mat) : Prop := L.Pairwise (· < ·)
end L3
set_option pp.maxSteps 600
namespace L3
open PySem PySem.Spec PyProof.Rows L2
local macro_rules | `(tactic| wtm_at "sh") => `(tactic| conv => whnf)
/-! ## less, of two of one type -/
/-! ## the pile that short rows' laws draw from -/
end L3
set_option pp.maxSteps 600
namespace L3
open PySem PySem.Spec PyProof.Rows L2
local macro_rules | `(tactic| wtm_at "sh") => `(tactic| conv => whnf)
/-! ## hidden rows -/
abbrev negR (x : List Int) : List Int := x.map fun a => 0 - a
theorem negR_eq (x : List Int) : negR x = x.map ((-1) * ·) := List.map_congr_left fun a _ => by omega
theorem Span.scale {m n : Nat} {rows : Mat} {x : List Int} (h : Sq m n rows) (k : Int) (s : Span n rows x) : Span n rows (x.map (k * ·)) := by
  rw [scale_vAdd]; exact s.vadd h _ s
theorem Same.neg {n i : Nat} {rows : Mat} {U : List Int} (h : Sq n n rows) (hU : rows[i]? = some U) : Same n rows (rows.set i (negR U)) := by
  have hl := h.1
  have lU := h.2 U (List.mem_of_getElem? hU)
  have hi : i < n := by have := (List.getElem?_eq_some_iff.mp hU).1; omega
  have sq : Sq n n (rows.set i (negR U)) := h.set (by rw [List.length_map]; exact lU)
  have g : (rows.set i (negR U))[i]? = some (negR U) := List.getElem?_set_self (by omega)
  refine ⟨sq, ?_, fun r hr => ?_, fun r hr => ?_⟩
  · rw [negR_eq, det_scale _ h hi lU, set_same hU, Int.natAbs_mul]; simp
  · rcases List.mem_or_eq_of_mem_set hr with hr | rfl
    · exact .of_mem h hr
    · rw [negR_eq]; exact (Span.of_mem h (List.mem_of_getElem? hU)).scale h _
  · obtain ⟨j, hj⟩ := List.getElem?_of_mem hr
    by_cases c : j = i
    · subst c
      rw [hU] at hj
      cases hj
      have e : U = (negR U).map ((-1) * ·) := by
        rw [List.map_map]
        exact (List.map_id U).symm.trans (List.map_congr_left fun a _ => by show a = -1 * (0 - a); omega)
      have sp := (Span.of_mem sq (List.mem_of_getElem? g)).scale sq (-1)
      rw [← e] at sp
      exact sp
    · exact .of_mem sq (List.mem_of_getElem? (i := j) (by rw [List.getElem?_set_ne (by omega)]; exact hj))
structure Hid (n b : Nat) (M rows : Mat) : Prop where
  same : Same n M rows
  sz : ∀ r ∈ rows, SzL b r
theorem Hid.refl {n b : Nat} {M : Mat} (h : Sq n n M) (hz : ∀ r ∈ M, SzL b r) : Hid n b M M := ⟨.refl h, hz⟩
theorem Hid.set {n b i : Nat} {M rows : Mat} {x : List Int} (h0 : Sq n n M) (h : Hid n b M rows) (k : Same n rows (rows.set i x)) (hz : SzL b x) : Hid n b M (rows.set i x) := ⟨h.same.trans h0 k, fun r hr => by
  rcases List.mem_or_eq_of_mem_set hr with hr | rfl
  · exact h.sz r hr
  · exact hz⟩
end L3
set_option pp.maxSteps 600
namespace L3
open PySem PySem.Spec PyProof.Rows L2
/-! ## grids of rows, and what must be in one -/
def prodN (w : Nat → Nat) : Nat → Nat
  | 0 => 1
  | k + 1 => prodN w k * w k
/-! ### planted rows -/
structure Planted (n : Nat) (M : Mat) : Prop where
  sq : Sq n n M
  tri : Tri 0 M
  pos : ∀ i, i < n → 1 ≤ (M.getD i []).getD i 0
def dgN (M : Mat) (i : Nat) : Nat := ((M.getD i []).getD i 0).toNat
theorem dg_eq {n i : Nat} {M : Mat} (h : Planted n M) (hi : i < n) : ((dgN M i : Nat) : Int) = (M.getD i []).getD i 0 := by
  have := h.pos i hi
  unfold dgN; omega
theorem dg_prod {n : Nat} {M : Mat} (h : Planted n M) : ((prodN (dgN M) n : Nat) : Int) = detN n M := by
  have hl := h.sq.1
  rw [det_tri n M h.sq h.tri]
  have go : ∀ k, k ≤ n → ((prodN (dgN M) k : Nat) : Int) = prodD 0 (M.take k) := by
    intro k
    induction k with
    | zero => intro _; rfl
    | succ k ih =>
      intro hk
      have e : M.take (k + 1) = M.take k ++ [M.getD k []] := by rw [List.take_add_one, getD_some (by omega)]; rfl
      rw [e, prodD_snoc, ← ih (by omega), List.length_take, Nat.min_eq_left (by omega), Nat.zero_add, ← dg_eq h (by omega)]
      show ((prodN (dgN M) k * dgN M k : Nat) : Int) = _
      rw [Int.natCast_mul]
  rw [go n (Nat.le_refl _), ← hl, List.take_length]
end L3
set_option pp.maxSteps 600
namespace L3
open PySem PySem.Spec PyProof.Rows L2
local macro_rules | `(tactic| wtm_at "sh") => `(tactic| conv => whnf)
/-! ## planted rows: lists of one's own -/
def matF (n : Nat) (g : Nat → Nat → Int) : Mat := (List.range n).map fun i => (List.range n).map fun j => g i j
theorem matF_row {n i : Nat} {g : Nat → Nat → Int} (h : i < n) : (matF n g).getD i [] = (List.range n).map fun j => g i j := by
  unfold matF
  rw [List.getD_eq_getElem?_getD, List.getElem?_map, List.getElem?_range h]; rfl
theorem matF_at {n i j : Nat} {g : Nat → Nat → Int} (h : i < n) (hj : j < n) : ((matF n g).getD i []).getD j 0 = g i j := by
  rw [matF_row h, List.getD_eq_getElem?_getD, List.getElem?_map, List.getElem?_range hj]; rfl
theorem matF_sq (n : Nat) (g : Nat → Nat → Int) : Sq n n (matF n g) := ⟨by unfold matF; rw [List.length_map, List.length_range], fun r hr => by
  unfold matF at hr
  obtain ⟨i, _, rfl⟩ := List.mem_map.mp hr
  rw [List.length_map, List.length_range]⟩
structure PG (n : Nat) (g : Nat → Nat → Int) : Prop where
  pos : ∀ i, i < n → 1 ≤ g i i
  zero : ∀ i j, i < n → j < i → g i j = 0
  bd : ∀ i j, i < n → j < n → 0 ≤ g i j ∧ g i j ≤ 1000
  pr : prodN (fun i => (g i i).toNat) n ≤ 1000
theorem PG.planted {n : Nat} {g : Nat → Nat → Int} (h : PG n g) : Planted n (matF n g) := ⟨matF_sq n g, fun i r hr c hc => by
  have hi : i < n := by have := (List.getElem?_eq_some_iff.mp hr).1; rw [(matF_sq n g).1] at this; exact this
  have e : (matF n g).getD i [] = r := by rw [List.getD_eq_getElem?_getD, hr]; rfl
  rw [← e, matF_at hi (by omega)]
  exact h.zero i c hi (by omega), fun i hi => by rw [matF_at hi hi]; exact h.pos i hi⟩
theorem prodN_congr {w w' : Nat → Nat} : ∀ k, (∀ i, i < k → w i = w' i) → prodN w k = prodN w' k
  | 0, _ => rfl
  | k + 1, h => by show prodN w k * w k = prodN w' k * w' k; rw [prodN_congr k fun i hi => h i (by omega), h k (by omega)]
theorem PG.det {n : Nat} {g : Nat → Nat → Int} (h : PG n g) : 1 ≤ detN n (matF n g) ∧ detN n (matF n g) ≤ 1000 := by
  have e := dg_prod h.planted
  have e2 : prodN (dgN (matF n g)) n = prodN (fun i => (g i i).toNat) n := prodN_congr n fun i hi => by unfold dgN; rw [matF_at hi hi]
  have hp := h.pr
  have h1 : ∀ k, k ≤ n → 1 ≤ prodN (fun i => (g i i).toNat) k := by
    intro k
    induction k with
    | zero => intro _; exact Nat.le_refl _
    | succ k ih =>
      intro hk
      have := h.pos k (by omega)
      exact Nat.mul_le_mul (ih (by omega)) (show 1 ≤ (g k k).toNat by omega)
  have := h1 n (Nat.le_refl _)
  omega
theorem PG.sz {n : Nat} {g : Nat → Nat → Int} (h : PG n g) : ∀ r ∈ matF n g, SzL 10 r := fun r hr => .of fun x hx => by
  unfold matF at hr
  obtain ⟨i, hi, rfl⟩ := List.mem_map.mp hr
  obtain ⟨j, hj, rfl⟩ := List.mem_map.mp hx
  have := h.bd i j (List.mem_range.mp hi) (List.mem_range.mp hj)
  unfold Sz; omega
end L3
set_option pp.maxSteps 600
namespace L3
open PySem PySem.Spec PyProof.Rows L2
local macro_rules | `(tactic| wtm_at "sh") => `(tactic| conv => whnf)
theorem Planted.det {n : Nat} {M : Mat} (h : Planted n M) : 0 < detN n M := by
  rw [← dg_prod h]
  have h1 : ∀ k, k ≤ n → 1 ≤ prodN (dgN M) k := by
    intro k
    induction k with
    | zero => intro _; exact Nat.le_refl _
    | succ k ih =>
      intro hk
      have := h.pos k (by omega)
      exact Nat.mul_le_mul (ih (by omega)) (show 1 ≤ dgN M k by unfold dgN; omega)
  have := h1 n (Nat.le_refl _)
  omega
end L3
set_option pp.maxSteps 600
namespace L3
open PySem PySem.Spec PyProof.Rows L2
local macro_rules | `(tactic| wtm_at "sh") => `(tactic| conv => whnf)
def BestI (n : Nat) (M : Mat) (L : Mat) : Option (List Int) → Prop
  | none => ∀ x ∈ L, ¬ (Span n M x ∧ 0 < nrm x)
  | some b => Span n M b ∧ 0 < nrm b ∧ ∀ x ∈ L, Span n M x → 0 < nrm x → ¬ sLt x b
theorem BestI.take {n : Nat} {M L : Mat} {x : List Int} {o : Option (List Int)} (h : BestI n M L o) (h1 : Span n M x) (h2 : 0 < nrm x) (hx : ∀ b, o = some b → sLt x b) : BestI n M (L ++ [x]) (some x) := by
  refine ⟨h1, h2, fun y hy k1 k2 => ?_⟩
  rcases List.mem_append.mp hy with hy | hy
  · cases o with
    | none => exact absurd ⟨k1, k2⟩ (h y hy)
    | some b => exact fun k => h.2.2 y hy k1 k2 (sLt_trans k (hx b rfl))
  · rw [List.mem_singleton.mp hy]; exact sLt_irrefl x
theorem latB_of {n : Nat} {M : Mat} (hs : Sq n n M) (n0 : 0 < n) (hd : detN n M ≠ 0) : latB M = true := by
  unfold latB
  rw [hs.1, Bool.and_eq_true]
  exact ⟨sqB_iff.mpr (by rw [hs.1]; exact ⟨n0, hs⟩), decide_eq_true hd⟩
end L3
set_option pp.maxSteps 600
namespace L3
open PySem PySem.Spec PyProof.Rows L2
/-! ## a loop over a list of one's own, which stays -/
end L3
set_option pp.maxSteps 600
namespace L3
open PySem PySem.Spec PyProof.Rows L2
local macro_rules | `(tactic| wtm_at "sh") => `(tactic| conv => whnf)
/-- all rows of a lattice to a size, in order -/
def AllTo (n : Nat) (M : Mat) (s : Int) (D : Mat) : Prop := SortedL D ∧ ∀ x, x ∈ D ↔ Span n M x ∧ Cube s x
end L3
set_option pp.maxSteps 600
namespace L3
open PySem PySem.Spec PyProof.Rows L2
/-! ## the first of a list that is like a datum, gone -/
end L3
set_option pp.maxSteps 600
namespace L3
open PySem PySem.Spec PyProof.Rows L2
/-! ## the lesser one of two of one type -/
end L3
set_option pp.maxSteps 600
namespace L3
open PySem PySem.Spec PyProof.Rows L2
/-! ## a planted short row of two numbers: the plain law -/
end L3
set_option pp.maxSteps 600
namespace L3
open PySem PySem.Spec PyProof.Rows L2
/-! ## numbers that with a planted row span just one: the plain law -/
def Cop (a b : Int) : Prop := ∀ d : Int, d ∣ a → d ∣ b → d ∣ 1
/-- steps of the common measure: what divides stays -/
def SameD (a b l r : Int) : Prop := ∀ d : Int, (d ∣ l ∧ d ∣ r) ↔ (d ∣ a ∧ d ∣ b)
theorem SameD.step {a b l r : Int} (h : SameD a b l r) : SameD a b r (l % r) := fun d => by
  rw [← h d]
  have e := Int.emod_add_mul_ediv l r
  constructor
  · rintro ⟨h1, h2⟩
    refine ⟨?_, h1⟩
    rw [← e]
    exact Int.dvd_add h2 (Int.dvd_mul_of_dvd_left h1)
  · rintro ⟨h1, h2⟩
    refine ⟨h2, ?_⟩
    rw [show l % r = l - r * (l / r) by omega]
    exact Int.dvd_sub h1 (Int.dvd_mul_of_dvd_left h2)
theorem SameD.cop {a b g : Int} (h : SameD a b g 0) (hb : 0 < b) (hg : 0 ≤ g) : 0 < g ∧ g ∣ a ∧ g ∣ b ∧ Cop (a / g) (b / g) := by
  obtain ⟨ha, hb2⟩ := (h g).mp ⟨Int.dvd_refl _, Int.dvd_zero _⟩
  have g0 : g ≠ 0 := fun e => by subst e; obtain ⟨k, hk⟩ := hb2; omega
  refine ⟨by omega, ha, hb2, fun d h1 h2 => ?_⟩
  obtain ⟨k1, e1⟩ := h1
  obtain ⟨k2, e2⟩ := h2
  have q1 : a = g * d * k1 := by have := Int.mul_ediv_cancel' ha; rw [e1] at this; rw [← this]; grind
  have q2 : b = g * d * k2 := by have := Int.mul_ediv_cancel' hb2; rw [e2] at this; rw [← this]; grind
  obtain ⟨k3, e3⟩ := ((h (g * d)).mpr ⟨⟨k1, q1⟩, ⟨k2, q2⟩⟩).1
  have q3 : g * 1 = g * (d * k3) := by rw [Int.mul_one, ← Int.mul_assoc]; exact e3
  exact ⟨k3, Int.eq_of_mul_eq_mul_left g0 q3⟩
structure PtI (u v a0 a1 a2 b0 b1 b2 : Int) : Prop where
  ea : a0 = u * a1 + v * a2
  eb : b0 = u * b1 + v * b2
  b : 0 ≤ b0
  cop : Cop a0 b0
  sum : b0 * (a1.natAbs : Int) + a0 * (b1.natAbs : Int) = v
  opp : a1 * b1 ≤ 0
  la : (a1.natAbs : Int) ≤ v
  lb : (b1.natAbs : Int) ≤ v
  pa : 0 < a0 ∨ b1 = 0
theorem PtI.step {u v a0 a1 a2 b0 b1 b2 : Int} (h : PtI u v a0 a1 a2 b0 b1 b2) (hb : b0 ≠ 0) : PtI u v b0 b1 b2 (a0 - a0 / b0 * b0) (a1 - a0 / b0 * b1) (a2 - a0 / b0 * b2) := by
  have hb0 : 0 < b0 := by have := h.b; omega
  have e := Int.emod_add_mul_ediv a0 b0
  have m0 := Int.emod_nonneg a0 hb
  have ec : a0 - a0 / b0 * b0 = a0 % b0 := by rw [Int.mul_comm]; omega
  obtain ⟨hsum, hlc⟩ : (a0 - a0 / b0 * b0) * (b1.natAbs : Int) + b0 * ((a1 - a0 / b0 * b1).natAbs : Int) = v ∧ b1 * (a1 - a0 / b0 * b1) ≤ 0 := by
    have hs := h.sum
    have ho := h.opp
    rcases h.pa with ha | hz
    · have ht : 0 ≤ a0 / b0 := Int.ediv_nonneg (by omega) (by omega)
      have sq := sq_nonneg b1
      have c : b1 * (a1 - a0 / b0 * b1) = a1 * b1 - a0 / b0 * (b1 * b1) := by grind
      have tq := Int.mul_nonneg ht sq
      refine ⟨?_, by omega⟩
      have ab : ((a1 - a0 / b0 * b1).natAbs : Int) = (a1.natAbs : Int) + a0 / b0 * (b1.natAbs : Int) := by
        rcases (show b1 = 0 ∨ 0 < b1 ∨ b1 < 0 by omega) with e1 | e1 | e1
        · rw [e1]; simp
        · have a1n : a1 ≤ 0 := by
            rcases Int.lt_or_le 0 a1 with c1 | c1
            · have := Int.mul_pos c1 e1; omega
            · exact c1
          have := Int.mul_nonneg ht (show 0 ≤ b1 by omega)
          rw [show ((b1.natAbs : Nat) : Int) = b1 by omega]; omega
        · have a1n : 0 ≤ a1 := by
            rcases Int.lt_or_le a1 0 with c1 | c1
            · have := Int.mul_pos_of_neg_of_neg c1 e1; omega
            · exact c1
          have := Int.mul_nonneg ht (show 0 ≤ -b1 by omega)
          have e2 : a0 / b0 * -b1 = -(a0 / b0 * b1) := Int.mul_neg ..
          rw [show ((b1.natAbs : Nat) : Int) = -b1 by omega]; omega
      rw [ab, ← hs]
      grind
    · rw [hz] at hs ⊢
      refine ⟨?_, by simp⟩
      simp at hs ⊢
      exact hs
  have lc : ((a1 - a0 / b0 * b1).natAbs : Int) ≤ v := by
    have n1 := Int.mul_nonneg (show 0 ≤ a0 - a0 / b0 * b0 by omega) (show (0 : Int) ≤ b1.natAbs by omega)
    have n2 := Int.mul_le_mul_of_nonneg_right (show 1 ≤ b0 by omega) (show (0 : Int) ≤ (a1 - a0 / b0 * b1).natAbs by omega)
    omega
  refine ⟨h.eb, ?_, by omega, fun d h1 h2 => h.cop d ?_ h1, hsum, hlc, h.lb, lc, .inl hb0⟩
  · have e1 := h.ea
    have e2 := h.eb
    generalize a0 / b0 = t at *
    rw [e1, e2]; grind
  · rw [show a0 = (a0 - a0 / b0 * b0) + a0 / b0 * b0 by omega]
    exact Int.dvd_add h2 (Int.dvd_mul_of_dvd_right h1)
end L3
set_option pp.maxSteps 600
namespace L3
open PySem PySem.Spec PyProof.Rows L2
local macro_rules | `(tactic| wtm_at "sh") => `(tactic| conv => whnf)
end L3
set_option pp.maxSteps 600
namespace L3
open PySem PySem.Spec PyProof.Rows L2
/-! ## a comprehension over a list of one's own, which stays -/
end L3
set_option pp.maxSteps 600
namespace L3
open PySem PySem.Spec PyProof.Rows L2
/-! ## rows with one number each: the plain law -/
/-! ### the lattice of such rows -/
end L3
set_option pp.maxSteps 600
namespace L3
open PySem PySem.Spec PyProof.Rows L2
local macro_rules | `(tactic| wtm_at "sh") => `(tactic| conv => whnf)
/-! ## rows with one number each: all to a size -/
end L3
set_option pp.maxSteps 600
namespace L3
open PySem PySem.Spec PyProof.Rows L2
local macro_rules | `(tactic| wtm_at "sh") => `(tactic| conv => whnf)
end L3
set_option pp.maxSteps 600
namespace L3
open PySem PySem.Spec PyProof.Rows L2
local macro_rules | `(tactic| wtm_at "sh") => `(tactic| conv => whnf)
/-! ## refusals of short rows -/
end L3
set_option pp.maxSteps 600
namespace L3
open PySem PySem.Spec PyProof.Rows L2
/-! ## rows taken off one another, place by place: none is left where one follows from the others -/
/-- all below the first row have nought in front: the determinant is the first number by that of the rest -/
theorem det_head {m : Nat} {h : List Int} {rest : Mat} (hs : Sq (m + 1) (m + 1) (h :: rest)) (h0 : ∀ r ∈ rest, r.getD 0 0 = 0) : detN (m + 1) (h :: rest) = h.getD 0 0 * detN m (minor 0 rest) := by
  obtain ⟨_, ht⟩ := hs.tail
  show sumR (m + 1) _ = _
  have z : ∀ k, k < m → h.getD (k + 1) 0 * sg (k + 1) * detN m (minor (k + 1) rest) = 0 := fun k hk => by
    have sq : Sq m m (minor (k + 1) rest) := ht.minor (by omega)
    rw [det_col0 m (minor (k + 1) rest) (by omega) sq fun r hr => by
      unfold minor at hr
      obtain ⟨s, hs2, rfl⟩ := List.mem_map.mp hr
      rw [get_erase, if_pos (by omega)]
      exact h0 s hs2, Int.mul_zero]
  have go : ∀ j, j ≤ m → sumR (j + 1) (fun k => h.getD k 0 * sg k * detN m (minor k rest)) = h.getD 0 0 * sg 0 * detN m (minor 0 rest) := by
    intro j
    induction j with
    | zero => intro _; show (0 : Int) + h.getD 0 0 * sg 0 * detN m (minor 0 rest) = _; rw [Int.zero_add]
    | succ j ih =>
      intro hj
      show sumR (j + 1) _ + h.getD (j + 1) 0 * sg (j + 1) * detN m (minor (j + 1) rest) = _
      rw [z j (by omega), ih (by omega)]; omega
  rw [go m (Nat.le_refl _)]
  show h.getD 0 0 * 1 * _ = _
  rw [Int.mul_one]
theorem det_front : ∀ (j n : Nat) (rows : Mat) (h : List Int), n ≤ 4 → Sq n n rows → rows[j]? = some h → (detN n (h :: rows.eraseIdx j)).natAbs = (detN n rows).natAbs
  | 0, n, rows, h, _, _, hj => by
    match rows, hj with
    | r :: rest, hj => cases hj; rfl
  | j + 1, n, rows, h, h4, hs, hj => by
    have hl := hs.1
    have hlt := (List.getElem?_eq_some_iff.mp hj).1
    obtain ⟨U, hU⟩ : ∃ U, rows[j]? = some U := ⟨_, List.getElem?_eq_getElem (by omega)⟩
    have sw := det_swap h4 hs (show j ≠ j + 1 by omega) hU hj
    have sq : Sq n n ((rows.set j h).set (j + 1) U) := (hs.set (hs.2 h (List.mem_of_getElem? hj))).set (hs.2 U (List.mem_of_getElem? hU))
    have ih := det_front j n ((rows.set j h).set (j + 1) U) h h4 sq (by rw [List.getElem?_set_ne (by omega), List.getElem?_set_self (by omega)])
    have e : ((rows.set j h).set (j + 1) U).eraseIdx j = rows.eraseIdx (j + 1) := by
      refine List.ext_getElem? fun c => ?_
      rw [List.getElem?_eraseIdx, List.getElem?_eraseIdx]
      by_cases h1 : c < j
      · rw [if_pos h1, if_pos (by omega), List.getElem?_set_ne (by omega), List.getElem?_set_ne (by omega)]
      · rw [if_neg h1]
        by_cases h2 : c = j
        · subst h2
          rw [List.getElem?_set_self (by rw [List.length_set]; omega), if_pos (by omega), hU]
        · rw [List.getElem?_set_ne (by omega), List.getElem?_set_ne (by omega), if_neg (by omega)]
    rw [e] at ih
    rw [ih, sw, Int.natAbs_neg]
/-- a row taken so many times less a head, so that its first number goes -/
abbrev lessR (h r : List Int) : List Int := vAdd (r.map (h.getD 0 0 * ·)) (-r.getD 0 0) h
theorem less_len {n : Nat} {h r : List Int} (hr : r.length = n) (hh : h.length = n) : (lessR h r).length = n := vAdd_len (by rw [List.length_map, hr]) hh
theorem less_zero {n : Nat} {h r : List Int} (hr : r.length = n) (hh : h.length = n) : (lessR h r).getD 0 0 = 0 := by
  rw [vAdd_getD (by rw [List.length_map, hr, hh])]
  have e : (r.map (h.getD 0 0 * ·)).getD 0 0 = h.getD 0 0 * r.getD 0 0 := by cases r <;> simp
  rw [e]; grind
theorem det_less {n i : Nat} {h r : List Int} {rest : Mat} (h4 : n ≤ 4) (hs : Sq n n (h :: rest)) (hi : rest[i]? = some r) : detN n (h :: rest.set i (lessR h r)) = h.getD 0 0 * detN n (h :: rest) := by
  have hl := hs.1
  have hin := (List.getElem?_eq_some_iff.mp hi).1
  have hin2 : i + 1 < n := by simp at hl; omega
  have lh := hs.2 h (by simp)
  have lr := hs.2 r (List.mem_cons_of_mem _ (List.mem_of_getElem? hi))
  have e1 := det_lin n (h :: rest) (i + 1) (r.map (h.getD 0 0 * ·)) h (-r.getD 0 0) hs hin2 (by rw [List.length_map, lr]) lh
  have e2 := det_scale (i := i + 1) (x := r) (h.getD 0 0) hs hin2 lr
  have e3 : detN n ((h :: rest).set (i + 1) h) = 0 := det_alt' h4 (hs.set lh) (show 0 ≠ i + 1 by omega) (by rw [List.getElem?_set_ne (by omega)]; rfl) (List.getElem?_set_self (by simp; omega))
  rw [e2, e3, set_same (rows := h :: rest) (i := i + 1) (x := r) hi, Int.mul_zero, Int.add_zero] at e1
  exact e1
theorem det_lessAll {n : Nat} {h : List Int} {rest : Mat} (h4 : n ≤ 4) (hs : Sq n n (h :: rest)) (h0 : h.getD 0 0 ≠ 0) (hd : detN n (h :: rest) ≠ 0) : detN n (h :: rest.map (lessR h)) ≠ 0 ∧ Sq n n (h :: rest.map (lessR h)) := by
  have lh := hs.2 h (by simp)
  have go : ∀ t, t ≤ rest.length → Sq n n (h :: ((rest.take t).map (lessR h) ++ rest.drop t)) ∧ detN n (h :: ((rest.take t).map (lessR h) ++ rest.drop t)) ≠ 0 := by
    intro t
    induction t with
    | zero => intro _; exact ⟨hs, hd⟩
    | succ t ih =>
      intro ht
      obtain ⟨s1, d1⟩ := ih (by omega)
      obtain ⟨r, hr⟩ : ∃ r, rest[t]? = some r := ⟨_, List.getElem?_eq_getElem (by omega)⟩
      have lt : ((rest.take t).map (lessR h)).length = t := by rw [List.length_map, List.length_take]; omega
      have at_ : ((rest.take t).map (lessR h) ++ rest.drop t)[t]? = some r := by
        rw [List.getElem?_append_right (by omega), lt, Nat.sub_self, List.getElem?_drop]; exact hr
      have e : ((rest.take t).map (lessR h) ++ rest.drop t).set t (lessR h r) = (rest.take (t + 1)).map (lessR h) ++ rest.drop (t + 1) := by
        rw [List.take_add_one, hr, List.map_append, List.set_append_right _ _ (by omega), lt, Nat.sub_self, List.append_assoc]
        congr 1
        rw [List.drop_eq_getElem_cons (by omega : t < rest.length)]
        rfl
      have dl := det_less h4 s1 at_
      rw [e] at dl
      refine ⟨?_, ?_⟩
      · rw [← e]
        refine ⟨by have := s1.1; simp only [List.length_cons, List.length_set] at this ⊢; exact this, fun x hx => ?_⟩
        rcases List.mem_cons.mp hx with rfl | hx
        · exact lh
        · rcases List.mem_or_eq_of_mem_set hx with hx | rfl
          · exact s1.2 x (List.mem_cons_of_mem _ hx)
          · exact less_len (hs.2 r (List.mem_cons_of_mem _ (List.mem_of_getElem? hr))) lh
      · rw [dl]
        exact Int.mul_ne_zero h0 d1
  obtain ⟨s1, d1⟩ := go rest.length (Nat.le_refl _)
  rw [List.take_length, List.drop_length, List.append_nil] at s1 d1
  exact ⟨d1, s1⟩
/-- one place further: what is left less the first place spans something still -/
theorem elim_step {m j : Nat} {B : Mat} {h : List Int} (h4 : m + 1 ≤ 4) (hs : Sq (m + 1) (m + 1) B) (hj : B[j]? = some h) (h0 : h.getD 0 0 ≠ 0) (hd : detN (m + 1) B ≠ 0) : Sq m m (minor 0 ((B.eraseIdx j).map (lessR h))) ∧ detN m (minor 0 ((B.eraseIdx j).map (lessR h))) ≠ 0 := by
  have hjn := (List.getElem?_eq_some_iff.mp hj).1
  have hl := hs.1
  have lh := hs.2 h (List.mem_of_getElem? hj)
  have sq : Sq (m + 1) (m + 1) (h :: B.eraseIdx j) := ⟨by rw [List.length_cons, List.length_eraseIdx, if_pos hjn]; omega, fun x hx => by
    rcases List.mem_cons.mp hx with rfl | hx
    · exact lh
    · exact hs.2 x (List.mem_of_mem_eraseIdx hx)⟩
  have fr := det_front j (m + 1) B h h4 hs hj
  obtain ⟨d1, s1⟩ := det_lessAll h4 sq h0 (by omega)
  have z : ∀ r ∈ (B.eraseIdx j).map (lessR h), r.getD 0 0 = 0 := fun r hr => by
    obtain ⟨s, hs2, rfl⟩ := List.mem_map.mp hr
    exact less_zero (hs.2 s (List.mem_of_mem_eraseIdx hs2)) lh
  rw [det_head s1 z] at d1
  obtain ⟨_, st⟩ := s1.tail
  exact ⟨st.minor (by omega), fun e => d1 (by rw [e, Int.mul_zero])⟩
end L3
set_option pp.maxSteps 600
namespace L3
open PySem PySem.Spec PyProof.Rows L2
local macro_rules | `(tactic| wtm_at "sh") => `(tactic| conv => whnf)
/-! ## rows taken off one another: the walk -/
/-- what is left behind p places: less the first p places it spans something where the rows do -/
structure Elim (n b p : Nat) (M L : Mat) : Prop where
  len : L.length = n - p
  row : ∀ r ∈ L, r.length = n
  sz : ∀ r ∈ L, SzL b r
  det : detN n M ≠ 0 → detN (n - p) (L.map (·.drop p)) ≠ 0
theorem Elim.start {n b : Nat} {M : Mat} (h : Sq n n M) (hz : ∀ r ∈ M, SzL b r) : Elim n b 0 M M := ⟨h.1, h.2, hz, fun k => by rw [show M.map (·.drop 0) = M by simp]; exact k⟩
theorem drop_head {r : List Int} {p : Nat} : (r.drop p).getD 0 0 = r.getD p 0 := by
  rw [List.getD_eq_getElem?_getD, List.getElem?_drop, Nat.add_zero, List.getD_eq_getElem?_getD]
theorem Elim.none {n b p : Nat} {M L : Mat} (h : Elim n b p M L) (hp : p < n) (hz : ∀ r ∈ L, r.getD p 0 = 0) : detN n M = 0 := by
  refine Classical.byContradiction fun hd => h.det hd ?_
  refine det_col0 (n - p) _ (by omega) ⟨by rw [List.length_map]; exact h.len, fun r hr => ?_⟩ fun r hr => ?_
  · obtain ⟨s, hs, rfl⟩ := List.mem_map.mp hr
    rw [List.length_drop, h.row s hs]
  · obtain ⟨s, hs, rfl⟩ := List.mem_map.mp hr
    rw [drop_head]; exact hz s hs
/-- what a row comes to when a head is taken off it -/
def offR (p : Nat) (h r : List Int) : List Int := List.zipWith (fun a c => a * h.getD p 0 - c * r.getD p 0) r h
theorem offR_len {n p : Nat} {h r : List Int} (hr : r.length = n) (hh : h.length = n) : (offR p h r).length = n := by unfold offR; rw [List.length_zipWith]; omega
theorem offR_at {n p c : Nat} {h r : List Int} (hr : r.length = n) (hh : h.length = n) (hc : c < n) : (offR p h r).getD c 0 = r.getD c 0 * h.getD p 0 - h.getD c 0 * r.getD p 0 := by
  have er : r[c]? = some (r.getD c 0) := by rw [List.getD_eq_getElem?_getD, List.getElem?_eq_getElem (by omega)]; rfl
  have eh : h[c]? = some (h.getD c 0) := by rw [List.getD_eq_getElem?_getD, List.getElem?_eq_getElem (by omega)]; rfl
  unfold offR
  rw [List.getD_eq_getElem?_getD, List.getElem?_zipWith, er, eh]; rfl
theorem map_erase {α β : Type} (f : α → β) : ∀ (l : List α) (j : Nat), (l.map f).eraseIdx j = (l.eraseIdx j).map f
  | [], j => by simp
  | a :: l, 0 => rfl
  | a :: l, j + 1 => by show f a :: (l.map f).eraseIdx j = f a :: (l.eraseIdx j).map f; rw [map_erase f l j]
theorem offR_drop {n p : Nat} {h r : List Int} (hr : r.length = n) (hh : h.length = n) (hp : p < n) : (lessR (h.drop p) (r.drop p)).eraseIdx 0 = (offR p h r).drop (p + 1) := by
  have ld : (r.drop p).length = n - p := by rw [List.length_drop, hr]
  have lh : (h.drop p).length = n - p := by rw [List.length_drop, hh]
  have ll : (lessR (h.drop p) (r.drop p)).length = n - p := less_len ld lh
  refine getD_ext (n := n - p - 1) (by rw [List.length_eraseIdx, if_pos (by omega), ll]) (by rw [List.length_drop, offR_len hr hh]; omega) fun c hc => ?_
  rw [get_erase, if_neg (by omega), vAdd_getD (by rw [List.length_map, ld, lh]), List.getD_eq_getElem?_getD (l := (offR p h r).drop (p + 1)), List.getElem?_drop, ← List.getD_eq_getElem?_getD, offR_at hr hh (by omega), drop_head, drop_head]
  have e1 : ((r.drop p).map (h.getD p 0 * ·)).getD (c + 1) 0 = h.getD p 0 * r.getD (p + 1 + c) 0 := by
    have er : r[p + 1 + c]? = some (r.getD (p + 1 + c) 0) := by rw [List.getD_eq_getElem?_getD, List.getElem?_eq_getElem (by omega)]; rfl
    rw [List.getD_eq_getElem?_getD, List.getElem?_map, List.getElem?_drop, show p + (c + 1) = p + 1 + c by omega, er]; rfl
  have e2 : (h.drop p).getD (c + 1) 0 = h.getD (p + 1 + c) 0 := by
    rw [List.getD_eq_getElem?_getD, List.getElem?_drop, show p + (c + 1) = p + 1 + c by omega, List.getD_eq_getElem?_getD]
  rw [e1, e2]
  grind
theorem Elim.step {n b p j : Nat} {M L : Mat} {h : List Int} (h4 : n ≤ 4) (E : Elim n b p M L) (hp : p < n) (hj : L[j]? = some h) (h0 : h.getD p 0 ≠ 0) : Elim n (2 * b + 1) (p + 1) M ((L.eraseIdx j).map (offR p h)) := by
  have hjn := (List.getElem?_eq_some_iff.mp hj).1
  have hm := List.mem_of_getElem? hj
  have lh := E.row h hm
  obtain ⟨m, em⟩ : ∃ m, n - p = m + 1 := ⟨n - p - 1, by omega⟩
  refine ⟨by rw [List.length_map, List.length_eraseIdx, if_pos hjn, E.len]; omega, fun r hr => ?_, fun r hr => ?_, fun hd => ?_⟩
  · obtain ⟨s, hs, rfl⟩ := List.mem_map.mp hr
    exact offR_len (E.row s (List.mem_of_mem_eraseIdx hs)) lh
  · obtain ⟨s, hs, rfl⟩ := List.mem_map.mp hr
    have ms := List.mem_of_mem_eraseIdx hs
    intro c
    by_cases hc : c < n
    · rw [offR_at (E.row s ms) lh hc]
      have s1 := (E.sz s ms c).mul (E.sz h hm p)
      have s2 := (E.sz h hm c).mul (E.sz s ms p)
      rw [show 2 * b + 1 = b + b + 1 by omega]
      exact s1.sub s2
    · rw [getD_big (by rw [offR_len (E.row s ms) lh]; omega)]
      unfold Sz
      exact Nat.pow_pos (by decide)
  · have dd := E.det hd
    rw [em] at dd
    have sq : Sq (m + 1) (m + 1) (L.map (·.drop p)) := ⟨by rw [List.length_map, E.len, em], fun r hr => by
      obtain ⟨s, hs, rfl⟩ := List.mem_map.mp hr
      rw [List.length_drop, E.row s hs, em]⟩
    obtain ⟨_, d2⟩ := elim_step (by omega) sq (j := j) (h := h.drop p) (by rw [List.getElem?_map, hj]; rfl) (by rw [drop_head]; exact h0) dd
    have e : minor 0 (((L.map (·.drop p)).eraseIdx j).map (lessR (h.drop p))) = ((L.eraseIdx j).map (offR p h)).map (·.drop (p + 1)) := by
      unfold minor
      rw [map_erase, List.map_map, List.map_map, List.map_map]
      refine List.map_congr_left fun r hr => ?_
      exact offR_drop (E.row r (List.mem_of_mem_eraseIdx hr)) lh hp
    rw [e] at d2
    rw [show n - (p + 1) = m by omega]
    exact d2
theorem mem_sz {b d : Nat} {r : List Int} {a : Int} (z : SzL b r) (h : r[d]? = some a) : Sz b a := by
  have := z d
  rw [List.getD_eq_getElem?_getD, h] at this
  exact this
end L3
set_option pp.maxSteps 600
namespace L3
open PySem PySem.Spec PyProof.Rows L2
local macro_rules | `(tactic| wtm_at "sh") => `(tactic| conv => whnf)
/-! ## no lattices of short rows -/
/-- rows that are no lattice, small enough to be asked -/
structure BadOk (M : Mat) : Prop where
  h5 : M.length ≤ 5
  r5 : ∀ r ∈ M, r.length ≤ 5
  sz : ∀ r ∈ M, SzL 140 r
  bad : BadR M
theorem BadOk.of {M : Mat} (h5 : M.length ≤ 5) (r5 : ∀ r ∈ M, r.length ≤ 5) (sz : ∀ r ∈ M, SzL 140 r) (h4 : sqB M = true → M.length ≤ 4) (hl : latB M = false) : BadOk M := ⟨h5, r5, sz, 140, by omega, fun r hr => by have := r5 r hr; omega, h4, sz, by decide, hl⟩
end L3
set_option pp.maxSteps 600
namespace L3
open PySem PySem.Spec PyProof.Rows L2
/-! ## any lattice has planted rows -/
end L3
set_option pp.maxSteps 600
namespace L3
open PySem PySem.Spec PyProof.Rows L2
/-! ## not in a list of data -/
/-! ## rows taken off one another: where all goes well they are a lattice -/
end L3
set_option pp.maxSteps 600
namespace L3
open PySem PySem.Spec PyProof.Rows L2
local macro_rules | `(tactic| wtm_at "sh") => `(tactic| conv => whnf)
end L3
set_option pp.maxSteps 600
namespace L3
open PySem PySem.Spec PyProof.Rows L2
local macro_rules | `(tactic| wtm_at "sh") => `(tactic| conv => whnf)
end L3
set_option pp.maxSteps 600
namespace L3
open PySem PySem.Spec PyProof.Rows L2
local macro_rules | `(tactic| wtm_at "sh") => `(tactic| conv => whnf)
/-! ## all sums of rows, by bounds for their multiples -/
end L3
set_option pp.maxSteps 600
namespace L3
open PySem PySem.Spec PyProof.Rows L2
local macro_rules | `(tactic| wtm_at "sh") => `(tactic| conv => whnf)
end L3
set_option pp.maxSteps 600
namespace L3
open PySem PySem.Spec PyProof.Rows L2
local macro_rules | `(tactic| wtm_at "sh") => `(tactic| conv => whnf)
theorem AllTo.same {n : Nat} {M M' L : Mat} {s : Int} (h0 : Sq n n M) (h : Same n M M') (k : AllTo n M' s L) : AllTo n M s L := ⟨k.1, fun x => by rw [k.2, h.iff h0]⟩
theorem rows_eqv {L : Mat} : PyData.eqv (.list (L.map rowT)) (.list (L.map rowT)) = true := by
  show PyData.eqvAll (L.map rowT) (L.map rowT) = true
  induction L with
  | nil => rfl
  | cons x L ih =>
    show (PyData.eqvAll (x.map PyData.int) (x.map PyData.int) && PyData.eqvAll (L.map rowT) (L.map rowT)) = true
    rw [ih, eqvAll_int]; simp
end L3
set_option pp.maxSteps 600
namespace L3
open PySem PySem.Spec PyProof.Rows L2
local macro_rules | `(tactic| wtm_at "sh") => `(tactic| conv => whnf)
theorem span_neg {n : Nat} {M : Mat} {x : List Int} (hs : Sq n n M) (h : Span n M x) : Span n M (x.map (0 - ·)) := by
  have lx := h.len hs
  have e : x.map (0 - ·) = vAdd (List.replicate n 0) (-1) x := getD_ext (by rw [List.length_map, lx]) (vAdd_len List.length_replicate lx) fun c hc => by
    rw [vAdd_getD (by rw [List.length_replicate, lx]), rep_getD hc]
    rw [List.getD_eq_getElem?_getD, List.getElem?_map, List.getD_eq_getElem?_getD, List.getElem?_eq_getElem (by omega)]
    show 0 - x[c] = 0 + -1 * x[c]
    omega
  rw [e]
  exact Span.vadd hs .zero _ h
end L3
set_option pp.maxSteps 600
namespace L3
open PySem PySem.Spec PyProof.Rows L2
local macro_rules | `(tactic| wtm_at "sh") => `(tactic| conv => whnf)
/-! ## reduced rows are hardly longer than the first ones -/
theorem Fd_span0 {n i : Nat} {M P : Mat} {y : List Int} (hM : Sq n n M) (hP : Sq n n P) (hi : i < n) (h0 : ∀ r ∈ M, Fd n P i r = 0) (h : Span n M y) : Fd n P i y = 0 ∧ y.length = n := by
  induction h with
  | zero => exact ⟨Fd_zero hP hi, List.length_replicate⟩
  | add m _ hr ih =>
    rename_i x r
    have lr := hM.2 _ hr
    exact ⟨by rw [Fd_lin hP hi ih.2 lr, ih.1, h0 _ hr, Int.mul_zero, Int.add_zero], vAdd_len ih.2 lr⟩
theorem red_top {n : Nat} {M P : Mat} {X : Int} (n0 : 0 < n) (h4 : n ≤ 4) (hs : Sq n n M) (hd : detN n M ≠ 0) (S : Same n M P) (hX : ∀ r ∈ M, dot r r ≤ X) : Dd P n ≤ X * Dd P (n - 1) := by
  have sq := S.sq
  have hl := sq.1
  have hd2 : detN n P ≠ 0 := by have := S.dt; omega
  have hp := Dd_pos h4 sq hd2
  obtain ⟨r, hr, h0⟩ : ∃ r ∈ M, Fd n P (n - 1) r ≠ 0 := by
    refine Classical.byContradiction fun hc => hd2 ?_
    have hz : ∀ r ∈ M, Fd n P (n - 1) r = 0 := fun r hr => Classical.byContradiction fun h => hc ⟨r, hr, h⟩
    have hb := getD_mem (rows := P) (k := n - 1) (by omega)
    have := (Fd_span0 hs sq (by omega) hz (S.sp _ hb)).1
    rw [Fd_row h4 sq (by omega) (by omega), if_pos rfl] at this
    exact this
  have lr := hs.2 r hr
  have hdv := (S.ps r hr).dvd h4 sq (i := n - 1) (by omega)
  obtain ⟨c, hc⟩ := hdv
  have hc : Fd n P (n - 1) r = detN n P * c := hc
  have lb := sq.getD (k := n - 1) (by omega)
  have e := Fd_mu h4 sq hd2 (k := n - 1) (by omega) lr
  rw [show n - 1 - (n - 1) = 0 by omega, show n - 1 + 1 = n by omega, hc] at e
  have e : detN n P * Mu P (n - 1) r (P.getD (n - 1) []) = 0 + detN n P * c * Dd P n := e
  have e2 : Mu P (n - 1) r (P.getD (n - 1) []) = c * Dd P n := Int.eq_of_mul_eq_mul_left hd2 (by rw [e, Int.zero_add, Int.mul_assoc])
  have eb : Mu P (n - 1) (P.getD (n - 1) []) (P.getD (n - 1) []) = Dd P n := by
    have := Dd_succ (rows := P) (getD_some (rows := P) (k := n - 1) (by omega))
    rw [show n - 1 + 1 = n by omega] at this
    exact this.symm
  have dn := hp n (Nat.le_refl _)
  have cs := mu_cs h4 sq hp (k := n - 1) (by omega) lr lb (by rw [eb]; exact dn)
  rw [e2, eb] at cs
  have ml := mu_le h4 sq hp lr (n - 1) (by omega) (by omega)
  have c0 : c ≠ 0 := fun z => h0 (by rw [hc, z, Int.mul_zero])
  have c1 : 1 ≤ c * c := by
    have e : (c.natAbs : Int) * c.natAbs = c * c := Int.natAbs_mul_self
    have : 1 ≤ c.natAbs * c.natAbs := Nat.mul_le_mul (show 1 ≤ c.natAbs by omega) (show 1 ≤ c.natAbs by omega)
    omega
  have g1 : Dd P n * (c * c * Dd P n) ≤ Dd P n * Mu P (n - 1) r r := by
    have e3 : c * Dd P n * (c * Dd P n) = Dd P n * (c * c * Dd P n) := by grind
    omega
  have g2 := Int.le_of_mul_le_mul_left g1 dn
  have g3 : 1 * Dd P n ≤ c * c * Dd P n := Int.mul_le_mul_of_nonneg_right c1 (by omega)
  have dn1 := hp (n - 1) (by omega)
  have g4 := Int.mul_le_mul_of_nonneg_left (hX r hr) (Int.le_of_lt dn1)
  rw [Int.mul_comm X]
  omega
theorem red_rat {n : Nat} {P : Mat} {X : Int} (n0 : 0 < n) (h4 : n ≤ 4) (hp : ∀ a, a ≤ n → 0 < Dd P a) (sh : ∀ i, i < n → ShB P i) (lo : ∀ k, k + 1 < n → standB P k = true) (top : Dd P n ≤ X * Dd P (n - 1)) : ∀ t, t < n → Dd P (n - t) ≤ 2 ^ t * X * Dd P (n - 1 - t)
  | 0, _ => by rw [Nat.sub_zero, Nat.sub_zero]; simpa using top
  | t + 1, ht => by
    have ih := red_rat n0 h4 hp sh lo top t (by omega)
    obtain ⟨k, hk⟩ : ∃ k, n = k + t + 2 := ⟨n - t - 2, by omega⟩
    have st := lov_step hp sh lo (k := k) (by omega)
    rw [show n - t = k + 2 by omega, show n - 1 - t = k + 1 by omega] at ih
    rw [show n - (t + 1) = k + 1 by omega, show n - 1 - (t + 1) = k by omega]
    have d0 := hp k (by omega)
    have d1 := hp (k + 1) (by omega)
    have g1 : Dd P k * Dd P (k + 2) ≤ Dd P k * (2 ^ t * X * Dd P (k + 1)) := Int.mul_le_mul_of_nonneg_left ih (by omega)
    have g2 : Dd P (k + 1) * Dd P (k + 1) ≤ Dd P (k + 1) * (2 ^ (t + 1) * X * Dd P k) := by
      have e1 : Dd P (k + 1) * (2 ^ (t + 1) * X * Dd P k) = 2 * (Dd P k * (2 ^ t * X * Dd P (k + 1))) := by rw [Int.pow_succ]; grind
      have e2 : 2 * (Dd P (k + 2) * Dd P k) = 2 * (Dd P k * Dd P (k + 2)) := by grind
      omega
    exact Int.le_of_mul_le_mul_left g2 d1
theorem red_short {n c : Nat} {M P : Mat} (n0 : 0 < n) (h4 : n ≤ 4) (hs : Sq n n M) (hd : detN n M ≠ 0) (S : Same n M P) (sh : ∀ i, i < n → ShB P i) (lo : ∀ k, k + 1 < n → standB P k = true) (hz : ∀ r ∈ M, SzL c r) : ∀ r ∈ P, SzL (c + 4) r := by
  have sq := S.sq
  have hd2 : detN n P ≠ 0 := by have := S.dt; omega
  have hp := Dd_pos h4 sq hd2
  have top := red_top (X := 2 ^ (2 * c + 2)) n0 h4 hs hd S fun r hr => dot_le h4 (hs.2 r hr) (hz r hr)
  have rt := red_rat n0 h4 hp sh lo top
  have xp : (0 : Int) < 2 ^ (2 * c + 2) := Int.pow_pos (by decide)
  have R : RatB n (8 * 2 ^ (2 * c + 2)) P := fun a ha => by
    have h := rt (n - 1 - a) (by omega)
    rw [show n - (n - 1 - a) = a + 1 by omega, show n - 1 - (n - 1 - a) = a by omega] at h
    have p8 : (2 : Int) ^ (n - 1 - a) ≤ 8 := by
      have := Nat.pow_le_pow_right (show 0 < 2 by decide) (show n - 1 - a ≤ 3 by omega)
      have e : ((2 ^ (n - 1 - a) : Nat) : Int) = (2 : Int) ^ (n - 1 - a) := by simp
      omega
    have g1 : (2 : Int) ^ (n - 1 - a) * 2 ^ (2 * c + 2) ≤ 8 * 2 ^ (2 * c + 2) := Int.mul_le_mul_of_nonneg_right p8 (by omega)
    exact Int.le_trans h (Int.mul_le_mul_of_nonneg_right g1 (Int.le_of_lt (hp a (by omega))))
  intro r hr
  obtain ⟨k, hk⟩ := List.getElem?_of_mem hr
  have hkn : k < n := by have := (List.getElem?_eq_some_iff.mp hk).1; have := sq.1; omega
  refine sz_of_norm (X := 8 * 2 ^ (2 * c + 2)) ?_ (norm_le2 h4 sq hp R hkn hk (sh k hkn))
  have e : (2 : Int) ^ (2 * (c + 4)) = 64 * 2 ^ (2 * c + 2) := by
    rw [show 2 * (c + 4) = (2 * c + 2) + 6 by omega, Int.pow_add]
    show _ * 64 = _
    rw [Int.mul_comm]
  rw [e]; omega
end L3
set_option pp.maxSteps 600
namespace L3
open PySem PySem.Spec PyProof.Rows L2
/-! ## lattices so many times as great, and with a place turned below nought -/
def timesR (t : Int) (r : List Int) : List Int := r.map (· * t)
theorem timesR_at {t : Int} {r : List Int} {c : Nat} : (timesR t r).getD c 0 = r.getD c 0 * t := by
  unfold timesR
  rw [List.getD_eq_getElem?_getD, List.getElem?_map, List.getD_eq_getElem?_getD]
  cases r[c]? with
  | none => show (0 : Int) = 0 * t; simp
  | some v => rfl
theorem timesR_len {t : Int} {r : List Int} : (timesR t r).length = r.length := List.length_map ..
theorem minor_times {t : Int} {k : Nat} {M : Mat} : minor k (M.map (timesR t)) = (minor k M).map (timesR t) := by
  unfold minor
  rw [List.map_map, List.map_map]
  refine List.map_congr_left fun r _ => ?_
  show (r.map (· * t)).eraseIdx k = (r.eraseIdx k).map (· * t)
  exact map_erase _ r k
theorem sumR_mulR {f : Nat → Int} {c : Int} : ∀ m, sumR m (fun u => f u * c) = sumR m f * c
  | 0 => by show (0 : Int) = 0 * c; simp
  | m + 1 => by show sumR m _ + _ = (sumR m f + f m) * c; rw [sumR_mulR m, Int.add_mul]
theorem det_times {t : Int} : ∀ (n : Nat) (M : Mat), Sq n n M → detN n (M.map (timesR t)) = detN n M * t ^ n
  | 0, M, _ => by show (1 : Int) = 1 * t ^ 0; simp
  | m + 1, M, hs => by
    match M, hs with
    | [], hs => exact absurd hs.1 (by simp)
    | r :: rest, hs =>
      obtain ⟨_, ht⟩ := hs.tail
      show sumR (m + 1) _ = sumR (m + 1) _ * _
      rw [← sumR_mulR]
      refine sumR_congr fun k hk => ?_
      rw [timesR_at, minor_times, det_times m _ (ht.minor (k := k) (by omega)), Int.pow_succ]
      grind
theorem Sq.mapR {n : Nat} {M : Mat} {f : List Int → List Int} (hs : Sq n n M) (hf : ∀ r, (f r).length = r.length) : Sq n n (M.map f) := ⟨by rw [List.length_map, hs.1], fun r hr => by
  obtain ⟨s, h, rfl⟩ := List.mem_map.mp hr
  rw [hf, hs.2 s h]⟩
theorem span_map {n : Nat} {M : Mat} {f : List Int → List Int} (hs : Sq n n M) (f0 : f (List.replicate n 0) = List.replicate n 0) (fa : ∀ x m y, x.length = n → y.length = n → f (vAdd x m y) = vAdd (f x) m (f y)) {x : List Int} (h : Span n M x) : Span n (M.map f) (f x) := by
  have : x.length = n ∧ Span n (M.map f) (f x) := by
    induction h with
    | zero => exact ⟨List.length_replicate, by rw [f0]; exact .zero⟩
    | add m _ hr ih =>
      rename_i x r
      have lr := hs.2 _ hr
      exact ⟨vAdd_len ih.1 lr, by rw [fa _ _ _ ih.1 lr]; exact .add _ ih.2 (List.mem_map_of_mem hr)⟩
  exact this.2
theorem times_add {n : Nat} {t : Int} (x : List Int) (m : Int) (y : List Int) (hx : x.length = n) (hy : y.length = n) : timesR t (vAdd x m y) = vAdd (timesR t x) m (timesR t y) := getD_ext (n := n) (by rw [timesR_len, vAdd_len hx hy]) (vAdd_len (by rw [timesR_len, hx]) (by rw [timesR_len, hy])) fun c hc => by
  rw [timesR_at, vAdd_getD (by omega), vAdd_getD (by rw [timesR_len, timesR_len]; omega), timesR_at, timesR_at]; grind
end L3
set_option pp.maxSteps 600
namespace L3
open PySem PySem.Spec PyProof.Rows L2
local macro_rules | `(tactic| wtm_at "sh") => `(tactic| conv => whnf)
end L3
set_option pp.maxSteps 600
namespace L3
open PySem PySem.Spec PyProof.Rows L2
/-! ## what rows span, squared, is the determinant's square -/
/-- each row's first number that counts lies farther to the right, from below -/
def RTo (n : Nat) (R : Mat) : Prop := ∀ (i : Nat) (r : List Int), R[i]? = some r → ∀ c, c + 1 + i < n → r.getD c 0 = 0
def RTk (n k : Nat) (R : Mat) : Prop := ∀ (i : Nat) (r : List Int), R[i]? = some r → ∀ c, c < k → c + 1 + i < n → r.getD c 0 = 0
structure Kin (n : Nat) (M R : Mat) : Prop where
  sq : Sq n n R
  dt : (detN n R).natAbs = (detN n M).natAbs
  dd : Dd R n = Dd M n
def wsum (k m : Nat) : Mat → Nat → Nat
  | [], _ => 0
  | r :: R, w => (if m = 0 then 0 else (r.getD k 0).natAbs * w) + wsum k (m - 1) R (w - 1)
theorem wsum_set {k : Nat} : ∀ {R : Mat} {m w i : Nat} {r : List Int} (x : List Int), R[i]? = some r → i < m → wsum k m (R.set i x) w + (r.getD k 0).natAbs * (w - i) = wsum k m R w + (x.getD k 0).natAbs * (w - i)
  | [], _, _, _, _, _, h, _ => by simp at h
  | s :: R, m, w, 0, r, x, h, hm => by
    have h : s = r := by simpa using h
    subst h
    show (if m = 0 then 0 else (x.getD k 0).natAbs * w) + wsum k (m - 1) R (w - 1) + _ = (if m = 0 then 0 else (s.getD k 0).natAbs * w) + wsum k (m - 1) R (w - 1) + _
    rw [if_neg (by omega), if_neg (by omega), Nat.sub_zero]; omega
  | s :: R, m, w, i + 1, r, x, h, hm => by
    have ih := wsum_set (k := k) (R := R) (m := m - 1) (w := w - 1) (i := i) x (by simpa using h) (by omega)
    show (if m = 0 then 0 else (s.getD k 0).natAbs * w) + wsum k (m - 1) (R.set i x) (w - 1) + _ = (if m = 0 then 0 else (s.getD k 0).natAbs * w) + wsum k (m - 1) R (w - 1) + _
    rw [show w - (i + 1) = w - 1 - i by omega]; omega
theorem rt_step {n k : Nat} {M : Mat} (h4 : n ≤ 4) (hk : k < n) : ∀ (t : Nat) (R : Mat), wsum k (n - k) R n ≤ t → Kin n M R → RTk n k R → ∃ R', Kin n M R' ∧ RTk n (k + 1) R' := by
  intro t
  induction t with
  | zero =>
    intro R hR K T
    refine ⟨R, K, fun i r hr c hc hci => ?_⟩
    by_cases e : c < k
    · exact T i r hr c e hci
    · have : c = k := by omega
      subst this
      have := wsum_set (k := c) (m := n - c) (w := n) (List.replicate n 0) hr (by omega)
      rw [rep_getD hk] at this
      have z : (0 : Int).natAbs * (n - i) = 0 := Nat.zero_mul _
      have h2 : (r.getD c 0).natAbs * (n - i) = 0 := by omega
      rcases Nat.mul_eq_zero.mp h2 with q | q
      · exact Int.natAbs_eq_zero.mp q
      · omega
  | succ t ih =>
    intro R hR K T
    have hl := K.sq.1
    by_cases hz : ∃ (i : Nat) (U V : List Int), i + 1 < n - k ∧ R[i]? = some U ∧ R[i + 1]? = some V ∧ U.getD k 0 ≠ 0
    · obtain ⟨i, U, V, hi, hU, hV, u0⟩ := hz
      have lU := K.sq.2 U (List.mem_of_getElem? hU)
      have lV := K.sq.2 V (List.mem_of_getElem? hV)
      by_cases hc : (U.getD k 0).natAbs ≤ (V.getD k 0).natAbs
      · obtain ⟨m, hm⟩ : ∃ m : Int, (V.getD k 0 + m * U.getD k 0).natAbs + (U.getD k 0).natAbs = (V.getD k 0).natAbs := by
          rcases Int.le_total 0 (U.getD k 0) with a | a <;> rcases Int.le_total 0 (V.getD k 0) with b | b
          · exact ⟨-1, by omega⟩
          · exact ⟨1, by omega⟩
          · exact ⟨1, by omega⟩
          · exact ⟨-1, by omega⟩
        have cm := wsum_set (k := k) (m := n - k) (w := n) (vAdd V m U) hV (by omega)
        rw [vAdd_getD (by omega)] at cm
        have S := Same.add (-m) h4 K.sq (show i + 1 ≠ i by omega) hV hU
        rw [Int.neg_neg] at S
        refine ih _ ?_ ⟨S.sq, S.dt.trans K.dt, (Dd_add h4 K.sq (by omega) hV hU (Nat.le_refl _)).trans K.dd⟩ fun a r hr c hc hca => ?_
        · have h1 : 1 ≤ (U.getD k 0).natAbs * (n - (i + 1)) := Nat.mul_le_mul (show 1 ≤ (U.getD k 0).natAbs by omega) (show 1 ≤ n - (i + 1) by omega)
          have h2 : ((V.getD k 0 + m * U.getD k 0).natAbs + (U.getD k 0).natAbs) * (n - (i + 1)) = (V.getD k 0).natAbs * (n - (i + 1)) := by rw [hm]
          rw [Nat.add_mul] at h2
          omega
        · by_cases e : i + 1 = a
          · subst e
            rw [List.getElem?_set_self (by omega)] at hr
            cases hr
            rw [vAdd_getD (by omega), T (i + 1) V hV c hc hca, T i U hU c hc (by omega)]; omega
          · rw [List.getElem?_set_ne e] at hr
            exact T a r hr c hc hca
      · have S := Same.swap h4 K.sq (show i ≠ i + 1 by omega) hU hV
        have c1 := wsum_set (k := k) (m := n - k) (w := n) V hU (by omega)
        have hV2 : (R.set i V)[i + 1]? = some V := by rw [List.getElem?_set_ne (by omega)]; exact hV
        have c2 := wsum_set (k := k) (m := n - k) (w := n) U hV2 (by omega)
        refine ih _ ?_ ⟨S.sq, S.dt.trans K.dt, (Dd_swap h4 K.sq hU hV (Nat.le_refl _) (by omega)).trans K.dd⟩ fun a r hr c hc hca => ?_
        · obtain ⟨d, hd⟩ : ∃ d, n - i = d + 1 := ⟨n - i - 1, by omega⟩
          rw [hd] at c1
          rw [show n - (i + 1) = d by omega] at c2
          rw [Nat.mul_add, Nat.mul_add, Nat.mul_one, Nat.mul_one] at c1
          omega
        · by_cases ea : i + 1 = a
          · subst ea
            rw [List.getElem?_set_self (by rw [List.length_set]; omega)] at hr
            cases hr
            exact T i U hU c hc (by omega)
          · rw [List.getElem?_set_ne ea] at hr
            by_cases ei : i = a
            · subst ei
              rw [List.getElem?_set_self (by omega)] at hr
              cases hr
              exact T (i + 1) V hV c hc (by omega)
            · rw [List.getElem?_set_ne ei] at hr
              exact T a r hr c hc hca
    · refine ⟨R, K, fun i r hr c hc hci => ?_⟩
      by_cases e : c < k
      · exact T i r hr c e hci
      · have : c = k := by omega
        subst this
        refine Classical.byContradiction fun h0 => hz ?_
        obtain ⟨V, hV⟩ : ∃ V, R[i + 1]? = some V := ⟨_, List.getElem?_eq_getElem (by omega)⟩
        exact ⟨i, r, V, by omega, hr, hV, h0⟩
theorem rt_of {n : Nat} {M : Mat} (h4 : n ≤ 4) (hs : Sq n n M) : ∃ R, Kin n M R ∧ RTo n R := by
  have go : ∀ k, k ≤ n → ∃ R, Kin n M R ∧ RTk n k R := by
    intro k
    induction k with
    | zero => intro _; exact ⟨M, ⟨hs, rfl, rfl⟩, fun i r hr c hc => by omega⟩
    | succ k ih =>
      intro hk
      obtain ⟨R, K, T⟩ := ih (by omega)
      exact rt_step h4 (by omega) _ R (Nat.le_refl _) K T
  obtain ⟨R, K, T⟩ := go n (Nat.le_refl _)
  exact ⟨R, K, fun i r hr c hc => T i r hr c (by omega) hc⟩
/-- the square of what such rows span, by their last places -/
def dgR (n : Nat) (R : Mat) (k : Nat) : Int := (R.getD k []).getD (n - 1 - k) 0
def sqR (n : Nat) (R : Mat) : Nat → Int
  | 0 => 1
  | k + 1 => sqR n R k * (dgR n R k * dgR n R k)
theorem rt_mu {n : Nat} {R : Mat} (h4 : n ≤ 4) (hs : Sq n n R) (hp : ∀ a, a ≤ n → 0 < Dd R a) (T : RTo n R) : ∀ k, k < n → Dd R k = sqR n R k ∧ ∀ x y : List Int, x.length = n → y.length = n → Mu R k x y = sqR n R k * sumR (n - k) fun c => x.getD c 0 * y.getD c 0
  | 0, _ => ⟨rfl, fun x y hx hy => by rw [Mu_zero, dot_sumR n x y hx hy]; show _ = 1 * _; rw [Int.one_mul, Nat.sub_zero]⟩
  | k + 1, hk => by
    obtain ⟨ih1, ih2⟩ := rt_mu h4 hs hp T k (by omega)
    have hl := hs.1
    have hr : R[k]? = some (R.getD k []) := getD_some (by omega)
    have lr := hs.getD (k := k) (by omega)
    obtain ⟨m, em⟩ : ∃ m, n - k = m + 1 := ⟨n - k - 1, by omega⟩
    have z : ∀ c, c < m → (R.getD k []).getD c 0 = 0 := fun c hc => T k _ hr c (by omega)
    have ed : dgR n R k = (R.getD k []).getD m 0 := by unfold dgR; rw [show n - 1 - k = m by omega]
    have s1 : ∀ x : List Int, (sumR (n - k) fun c => x.getD c 0 * (R.getD k []).getD c 0) = x.getD m 0 * dgR n R k := fun x => by
      rw [em]
      show sumR m _ + _ = _
      rw [sumR_zero fun c hc => by rw [z c hc, Int.mul_zero], Int.zero_add, ed]
    have s2 : ∀ y : List Int, (sumR (n - k) fun c => (R.getD k []).getD c 0 * y.getD c 0) = dgR n R k * y.getD m 0 := fun y => by
      rw [em]
      show sumR m _ + _ = _
      rw [sumR_zero fun c hc => by rw [z c hc, Int.zero_mul], Int.zero_add, ed]
    have dk := hp k (by omega)
    have e1 : Dd R (k + 1) = sqR n R (k + 1) := by
      rw [Dd_succ hr, ih2 _ _ lr lr, s1, ← ed]; rfl
    refine ⟨e1, fun x y hx hy => ?_⟩
    have sy := syl k R (R.getD k []) x y (by omega) hr
    rw [ih2 _ _ lr lr, ih2 _ _ hx hy, ih2 _ _ hx lr, ih2 _ _ lr hy, s1, s1, s2, ← ed, ih1] at sy
    rw [ih1] at dk
    have e2 : (sumR (n - k) fun c => x.getD c 0 * y.getD c 0) = (sumR m fun c => x.getD c 0 * y.getD c 0) + x.getD m 0 * y.getD m 0 := by rw [em]; rfl
    rw [e2] at sy
    rw [show n - (k + 1) = m by omega]
    refine Int.eq_of_mul_eq_mul_left (by omega : sqR n R k ≠ 0) ?_
    rw [← sy]
    show _ = sqR n R k * (sqR n R k * (dgR n R k * dgR n R k) * _)
    grind
theorem rt_dd {n : Nat} {R : Mat} (n0 : 0 < n) (h4 : n ≤ 4) (hs : Sq n n R) (hp : ∀ a, a ≤ n → 0 < Dd R a) (T : RTo n R) : Dd R n = sqR n R n := by
  obtain ⟨k, rfl⟩ : ∃ k, n = k + 1 := ⟨n - 1, by omega⟩
  obtain ⟨ih1, ih2⟩ := rt_mu h4 hs hp T k (by omega)
  have hl := hs.1
  have hr : R[k]? = some (R.getD k []) := getD_some (by omega)
  have lr := hs.getD (k := k) (by omega)
  rw [Dd_succ hr, ih2 _ _ lr lr, show k + 1 - k = 1 by omega]
  show sqR (k + 1) R k * (0 + _) = sqR (k + 1) R k * _
  unfold dgR
  rw [show k + 1 - 1 - k = 0 by omega, Int.zero_add]
theorem det_lastR : ∀ (n : Nat) (R : Mat), Sq n n R → RTo n R → detN n R * detN n R = sqR n R n
  | 0, R, _, _ => rfl
  | m + 1, R, hs, T => by
    match R, hs with
    | [], hs => exact absurd hs.1 (by simp)
    | r :: rest, hs =>
      obtain ⟨hr, ht⟩ := hs.tail
      have sq2 : Sq m m (minor m rest) := ht.minor (k := m) (by omega)
      have T2 : RTo m (minor m rest) := fun i s hi c hc => by
        unfold minor at hi
        rw [List.getElem?_map] at hi
        cases hv : rest[i]? with
        | none => rw [hv] at hi; cases hi
        | some v =>
          rw [hv] at hi
          cases hi
          rw [get_erase, if_pos (by omega)]
          exact T (i + 1) v (by rw [List.getElem?_cons_succ]; exact hv) c (by omega)
      have ih := det_lastR m (minor m rest) sq2 T2
      have z : ∀ c, c < m → r.getD c 0 = 0 := fun c hc => T 0 r rfl c (by omega)
      have e : detN (m + 1) (r :: rest) = r.getD m 0 * sg m * detN m (minor m rest) := by
        show sumR m _ + _ = _
        rw [sumR_zero fun c hc => by rw [z c hc, Int.zero_mul, Int.zero_mul], Int.zero_add]
      have es : ∀ k, k ≤ m → sqR (m + 1) (r :: rest) (k + 1) = r.getD m 0 * r.getD m 0 * sqR m (minor m rest) k := by
        intro k
        induction k with
        | zero =>
          intro _
          show 1 * (dgR (m + 1) (r :: rest) 0 * dgR (m + 1) (r :: rest) 0) = _ * 1
          unfold dgR
          rw [Int.one_mul, Int.mul_one]; rfl
        | succ k ih2 =>
          intro hk
          show sqR (m + 1) (r :: rest) (k + 1) * (dgR (m + 1) (r :: rest) (k + 1) * dgR (m + 1) (r :: rest) (k + 1)) = _ * (sqR m (minor m rest) k * (dgR m (minor m rest) k * dgR m (minor m rest) k))
          rw [ih2 (by omega)]
          have hl := ht.1
          have ed : dgR (m + 1) (r :: rest) (k + 1) = dgR m (minor m rest) k := by
            unfold dgR
            have hv : rest[k]? = some (rest.getD k []) := getD_some (by omega)
            have e1 : (r :: rest).getD (k + 1) [] = rest.getD k [] := by rw [List.getD_eq_getElem?_getD, List.getElem?_cons_succ, ← List.getD_eq_getElem?_getD]
            have e2 : (minor m rest).getD k [] = (rest.getD k []).eraseIdx m := by
              unfold minor
              rw [List.getD_eq_getElem?_getD, List.getElem?_map, hv]; rfl
            rw [e1, e2, get_erase, if_pos (by omega), show m + 1 - 1 - (k + 1) = m - 1 - k by omega]
          rw [ed]
          grind
      rw [e, es m (Nat.le_refl _), ← ih]
      have s2 : sg m * sg m = 1 := by
        have h := Int.natAbs_mul_self (a := sg m)
        rw [sg_abs] at h
        omega
      have : r.getD m 0 * sg m * detN m (minor m rest) * (r.getD m 0 * sg m * detN m (minor m rest)) = (sg m * sg m) * (r.getD m 0 * r.getD m 0 * (detN m (minor m rest) * detN m (minor m rest))) := by grind
      rw [this, s2, Int.one_mul]
/-- what rows span, squared: the determinant's square -/
theorem dd_det {n : Nat} {M : Mat} (n0 : 0 < n) (h4 : n ≤ 4) (hs : Sq n n M) (hd : detN n M ≠ 0) : Dd M n = detN n M * detN n M := by
  obtain ⟨R, K, T⟩ := rt_of h4 hs
  have hd2 : detN n R ≠ 0 := by have := K.dt; omega
  have e1 := rt_dd n0 h4 K.sq (Dd_pos h4 K.sq hd2) T
  have e2 := det_lastR n R K.sq T
  have e3 : detN n R * detN n R = detN n M * detN n M := by
    rw [← Int.natAbs_mul_self, ← Int.natAbs_mul_self (a := detN n M), K.dt]
  rw [← K.dd, e1, ← e2, e3]
/-- the first reduced row's square, so often, against what is spanned -/
theorem first_pow {n : Nat} {P : Mat} (hp : ∀ a, a ≤ n → 0 < Dd P a) (sh : ∀ i, i < n → ShB P i) (lo : ∀ k, k + 1 < n → standB P k = true) : ∀ k, k ≤ n → Dd P 1 ^ k ≤ 2 ^ (k * (k - 1) / 2) * Dd P k
  | 0, _ => by rw [Dd_zero]; simp
  | k + 1, hk => by
    have ih := first_pow hp sh lo k (by omega)
    have l1 := lov1 hp sh lo k (by omega)
    have d1 := hp 1 (by omega)
    have d0 := hp k (by omega)
    have e : (k + 1) * (k + 1 - 1) / 2 = k * (k - 1) / 2 + k := by
      have : (k + 1) * (k + 1 - 1) = k * (k - 1) + k * 2 := by
        cases k with
        | zero => rfl
        | succ k => simp only [Nat.add_sub_cancel]; grind
      rw [this, Nat.add_mul_div_right _ _ (by decide)]
    rw [e, Int.pow_succ, Int.pow_add]
    have g1 : Dd P 1 ^ k * Dd P 1 ≤ 2 ^ (k * (k - 1) / 2) * Dd P k * Dd P 1 := Int.mul_le_mul_of_nonneg_right ih (Int.le_of_lt d1)
    have g2 : (2 : Int) ^ (k * (k - 1) / 2) * (Dd P k * Dd P 1) ≤ 2 ^ (k * (k - 1) / 2) * (2 ^ k * Dd P (k + 1)) := Int.mul_le_mul_of_nonneg_left l1 (Int.le_of_lt (Int.pow_pos (by decide)))
    have e2 : (2 : Int) ^ (k * (k - 1) / 2) * Dd P k * Dd P 1 = 2 ^ (k * (k - 1) / 2) * (Dd P k * Dd P 1) := by grind
    have e3 : (2 : Int) ^ (k * (k - 1) / 2) * (2 ^ k * Dd P (k + 1)) = 2 ^ (k * (k - 1) / 2) * 2 ^ k * Dd P (k + 1) := by grind
    omega
end L3
set_option pp.maxSteps 600
namespace L3
open PySem PySem.Spec PyProof.Rows L2
local macro_rules | `(tactic| wtm_at "sh") => `(tactic| conv => whnf)
/-! ## drawn rows of up to nine figures -/
def L1_law_rows_2 : TS3 := (xFor (xR1 (xView 4)) (xGName 9) (xSeq (xAsg (xCall sp_law_number_1 xNoE (xArg (xView 0) (xArg (x2 kAdd (x2 kAdd (x2 kAdd (xView 1) (xC (.int 1))) (x2 kMul (xC (.int 4)) (xView 7))) (xView 9)) xANil))) (xGName 10))
  (xSeq (xAsg (xCall sp_law_great_1 xNoE (xArg (xView 0) (xArg (x2 kAdd (x2 kAdd (x2 kAdd (xView 1) (xC (.int 20))) (x2 kMul (xC (.int 32)) (xView 7))) (x2 kMul (xC (.int 8)) (xView 9))) (xArg (x2 cIx (xFz (xLst (xCons (xD (xC (.int 1))) (xCons (xD (xC (.int 6))) xNil)))) (xView 2)) xANil)))) (xGName 11))
  (xSeq (xAsg (xD (x2 kMul (x2 cIx (xFz (xLst (xCons (xMove 11) (xCons (xD (x1 cInt (x2 kEq (xView 7) (xView 9)))) xNil)))) (x1 cInt (x2 kGt (xView 7) (xC (.int 0))))) (x2 cIx (xFz (xLst (xCons (xD (xC (.int 1))) (xCons (xD (x2 cIx (xFz (xLst (xCons (xD (x2 kPow (xC (.int 10)) (xC (.int 9)))) (xCons (xD (x2 kPow (xC (.int 10)) (xC (.int 39)))) xNil)))) (xView 2))) xNil)))) (x1 cInt (x2 kGt (xView 7) (xC (.int 0))))))) (xGName 12))
  (xSeq (xAsg (xD (x2 kMul (x2 kSub (x2 kSub (x2 cIx (xFz (xLst (xCons (xD (x2 kPow (xC (.int 10)) (xC (.int 9)))) (xCons (xD (x2 kPow (xC (.int 10)) (xC (.int 40)))) xNil)))) (xView 2)) (xC (.int 1))) (xView 10)) (x2 cIx (xFz (xLst (xCons (xD (xC (.int 1))) (xCons (xD (xNeg (xC (.int 1)))) xNil)))) (x2 kMod (xView 10) (xC (.int 2)))))) (xGName 13))
  (xDrop (xD (xFz (xApp 8 (xD (x2 cIx (xFz (xLst (xCons (xD (x2 kSub (x2 kMod (xView 10) (xC (.int 19))) (xC (.int 9)))) (xCons (xMove 11) (xCons (xD (x2 kAdd (x2 kMul (x2 kDiv (x2 kMod (xView 10) (xC (.int 5))) (xC (.int 3))) (xView 11)) (x1 cInt (x2 kEq (xView 7) (xView 9))))) (xCons (xMove 13) (xCons (xMove 12) (xCons (xD (x1 cInt (x2 kEq (xView 7) (xView 9)))) xNil)))))))) (xView 5))))))))))))
def L2_law_rows_2 : TS3 := (xFor (xR1 (xView 4)) (xGName 7) (xSeq (xAsg (xLst xNil) (xGName 8))
  (xSeq L1_law_rows_2
  (xDrop (xD (xFz (xApp 6 (xD (xFz (xMove 8))))))))))
def R3_law_rows_2 : TS3 := (xAsg (xD (xFz (xLc (xZipX (x2 cIx (xView 6) (xView 16)) (x2 cIx (xView 6) (xView 17))) (xGTup 2 (xGCons (xGName 19) (xGCons (xGName 20) xGNil))) xYes (xD (x2 kAdd (xView 19) (x2 kMul (xView 18) (xView 20)))) [19, 20]))) (xGSub 6 (xView 16)))
def L4_law_rows_2 : TS3 := (xFor (xR1 (xView 14)) (xGName 15) (xSeq (xAsg (xCall sp_law_number_1 xNoE (xArg (xView 0) (xArg (x2 kAdd (x2 kAdd (xView 1) (xC (.int 150))) (xView 15)) xANil))) (xGName 10))
  (xSeq (xAsg (xD (x2 kMod (xView 10) (xView 4))) (xGName 16))
  (xSeq (xAsg (xD (x2 kMod (x2 kDiv (xView 10) (xC (.int 4))) (xView 4))) (xGName 17))
  (xSeq (xAsg (xD (x2 kSub (x2 kMod (x2 kDiv (xView 10) (xC (.int 16))) (xC (.int 19))) (xC (.int 9)))) (xGName 18))
  (xSeq (xIfS (xTest (x2 kEq (xView 16) (xView 17))) (xAsg (xD (x2 cIx (xFz (xLst (xCons (xD (xC (.int 0))) (xCons (xD (xNeg (xC (.int 2)))) (xCons (xD (xC (.int 1))) xNil))))) (x2 kMod (x2 kDiv (xView 10) (xC (.int 16))) (xC (.int 3))))) (xGName 18)) xNext)
  R3_law_rows_2))))))
def N_law_rows_2 : List Str := ["_law_script", "_law_start", "_law_wide", "_law_head", "_law_many", "_law_kind", "_law_rows_here", "_law_k", "_law_row", "_law_j", "_law_number_here", "_law_great_here", "_law_near", "_law_far", "_law_turns", "_law_turn", "_law_one", "_law_other", "_law_by_here", "_law_left", "_law_right"]
def body_law_rows_2 : TS3 := (xSeq (xAsg (xCall sp_law_number_1 xNoE (xArg (xView 0) (xArg (xView 1) xANil))) (xGName 3))
  (xSeq (xAsg (xD (x2 kAdd (xC (.int 1)) (x2 kMod (xView 3) (xC (.int 4))))) (xGName 4))
  (xSeq (xAsg (xD (x2 kMod (x2 kDiv (xView 3) (xC (.int 4))) (xC (.int 6)))) (xGName 5))
  (xSeq (xAsg (xLst xNil) (xGName 6))
  (xSeq L2_law_rows_2
  (xSeq (xAsg (xD (x2 cIx (xFz (xLst (xCons (xD (xC (.int 0))) (xCons (xD (xC (.int 0))) (xCons (xD (xC (.int 0))) (xCons (xD (xC (.int 0))) (xCons (xD (xC (.int 0))) (xCons (xD (x2 kAdd (xC (.int 3)) (x2 kMod (x2 kDiv (xView 3) (xC (.int 24))) (x2 cIx (xFz (xLst (xCons (xD (xC (.int 6))) (xCons (xD (xC (.int 30))) xNil)))) (xView 2))))) xNil)))))))) (xView 5))) (xGName 14))
  (xSeq L4_law_rows_2
  (xRet (xD (x1 cTup (xFz (xLc (xSeqI (xFz (xMove 6))) (xGName 8) xYes (xD (x1 cTup (xView 8))) [8]))))))))))))
theorem near_pick2 {k : Nat} {x e m : Int} (hk : k < 4) (hx : x.natAbs < 1000000) (he : e = 0 ∨ e = 1) (m0 : 0 ≤ m) (m1 : m ≤ 10 ^ 9) :
    ∃ u v : Int, getI [PyData.int x, PyData.int e] (if decide (0 < (0 + (k : Nat) : Int)) = true then 1 else 0) = some (.int u) ∧ getI [PyData.int 1, PyData.int m] (if decide (0 < (0 + (k : Nat) : Int)) = true then 1 else 0) = some (.int v) ∧ (u * v).natAbs < 10 ^ 9 + 1 ∧ MulOk u v := by
  have e9 : (10 : Int) ^ 9 = 1000000000 := by decide
  rcases (show k = 0 ∨ k = 1 ∨ k = 2 ∨ k = 3 by omega) with rfl | rfl | rfl | rfl
  · exact ⟨x, 1, rfl, rfl, by rw [Int.mul_one]; omega, mulOkR (by decide) (by decide)⟩
  all_goals
    refine ⟨e, m, rfl, rfl, ?_, mulOkL (by omega) (by omega)⟩
    rcases he with rfl | rfl
    · rw [Int.zero_mul]; decide
    · rw [Int.one_mul]; omega
theorem v_L1_law_rows_2 {D : Ends3} {a p6 p8 : Addr} {ns : List Int} {st w hd m kd : Int} {L6 : List T} {k : Nat} {s9 s10 s11 s12 s13 s14 s15 s16 s17 s18 s19 s20 : Option T} (hl : ns.length ≤ 63) (h0 : 0 ≤ st) (h1 : st ≤ 1000) (w0 : w = 0) (m0 : 1 ≤ m) (m1 : m ≤ 4) (kd0 : 0 ≤ kd) (kd1 : kd < 6) (hk : k < 4)
    (q : ∀ (row : List Int) s9 s10 s11 s12 s13, (row.length : Int) = m → SzL 31 row → D.nx [some (.sc a ns), some (.d (.int st)), some (.d (.int w)), some (.d (.int hd)), some (.d (.int m)), some (.d (.int kd)), some (.own p6 L6), some (.d (.int (0 + (k : Nat)))), some (.own p8 (row.map fun x => T.d (.int x))), s9, s10, s11, s12, s13, s14, s15, s16, s17, s18, s19, s20]) :
    L1_law_rows_2 D [some (.sc a ns), some (.d (.int st)), some (.d (.int w)), some (.d (.int hd)), some (.d (.int m)), some (.d (.int kd)), some (.own p6 L6), some (.d (.int (0 + (k : Nat)))), some (.own p8 []), s9, s10, s11, s12, s13, s14, s15, s16, s17, s18, s19, s20] := by
  have hb2 : 1000 < sizeLine := by decide
  have e9 : (10 : Int) ^ 9 = 1000000000 := by decide
  have e9n : (10 : Nat) ^ 9 = 1000000000 := by decide
  subst w0
  refine ⟨by omega, by omega, fun j r => ∃ L s9 s10 s11 s12 s13, r = [some (.sc a ns), some (.d (.int st)), some (.d (.int 0)), some (.d (.int hd)), some (.d (.int m)), some (.d (.int kd)), some (.own p6 L6), some (.d (.int (0 + (k : Nat)))), some (.own p8 L), s9, s10, s11, s12, s13, s14, s15, s16, s17, s18, s19, s20] ∧ (∃ row : List Int, L = row.map (fun x => T.d (.int x)) ∧ row.length = j ∧ ∀ x ∈ row, Sz 31 x) ∧ (j : Int) ≤ m, ⟨_, _, _, _, _, _, rfl, ⟨[], rfl, rfl, fun x hx => nomatch hx⟩, by omega⟩, fun j x r hx hW => ?_, fun r hW => ?_⟩
  · obtain ⟨L, s9, s10, s11, s12, s13, rfl, ⟨row, rfl, hr, hz⟩, hj⟩ := hW
    obtain ⟨hj1, rfl⟩ := rangeI_get hx
    have hj2 : (j : Int) < m := by omega
    refine ⟨mulOkL (by decide) (by decide), nd0, a, ns, _, rfl, hl, by omega, by omega, fun y y0 y1 => ⟨mulOkL (by decide) (by decide), mulOkL (by decide) (by decide), sz 2, fun _ => ⟨rfl, ?_⟩⟩⟩
    obtain ⟨g, hg, g0, g1⟩ : ∃ g : Int, getI [PyData.int 1, .int 6] 0 = some (.int g) ∧ 1 ≤ g ∧ g ≤ 1 := ⟨1, rfl, by decide, by decide⟩
    obtain rfl : g = 1 := by omega
    refine ⟨_, hg, nd0, a, ns, _, 1, rfl, hl, by omega, by omega, g0, by omega, fun x hx => ?_⟩
    have hx : x.natAbs < 1000000 := hx
    have hk4 : (0 + (k : Nat) : Int) < 4 := by omega
    obtain ⟨tm, hw2, t0, t1⟩ : ∃ tm : Int, getI [PyData.int (10 ^ 9), .int (10 ^ 39)] 0 = some (.int tm) ∧ 0 ≤ tm ∧ tm ≤ 10 ^ 9 := ⟨10 ^ 9, rfl, by decide, by decide⟩
    obtain ⟨tf, hw3, f0, f1⟩ : ∃ tf : Int, getI [PyData.int (10 ^ 9), .int (10 ^ 40)] 0 = some (.int tf) ∧ 10 ^ 9 ≤ tf ∧ tf ≤ 10 ^ 9 := ⟨10 ^ 9, rfl, by decide, by decide⟩
    obtain ⟨sgn, hsg, sg0⟩ := pickA (l := [.int 1, .int (-1)]) (P := fun y => y = 1 ∨ y = -1) (em_b y 2).1 (em_b y 2).2 (fun z hz => by
      rcases List.mem_cons.mp hz with rfl | hz
      · exact ⟨1, rfl, .inl rfl⟩
      · rcases List.mem_cons.mp hz with rfl | hz
        · exact ⟨-1, rfl, .inr rfl⟩
        · cases hz)
    refine ⟨rfl, rfl, sz 2, fun _ => ⟨rfl, ?_⟩⟩
    generalize he : (if PyData.eqv (PyData.int (0 + (k : Nat))) (PyData.int (0 + (j : Nat))) = true then (1 : Int) else 0) = e
    have e01 : e = 0 ∨ e = 1 := by rw [← he]; split; exact .inr rfl; exact .inl rfl
    obtain ⟨u, v, hu, hv, huv, hmo⟩ := near_pick2 hk hx e01 t0 t1
    refine ⟨_, hu, ⟨by decide, by decide, by decide⟩, ⟨by decide, by decide, by decide⟩, sz 2, fun _ => ⟨rfl, _, hw2, sz 2, fun _ => ⟨rfl, _, hv, hmo, ?_⟩⟩⟩
    refine ⟨⟨by decide, by decide, by decide⟩, ⟨by decide, by decide, by decide⟩, sz 2, fun _ => ⟨rfl, _, hw3, sz 2, fun _ => ⟨rfl, pz, _, hsg, mulOkR (by omega) (by omega), ?_⟩⟩⟩
    refine ⟨pz, pz, divOk (n := 4) pz (by unfold Sz; decide) (by decide), mulOkL (by have := em_b y 5; omega) (by have := em_b y 5; omega), rfl, rfl, rfl, rfl, sz 6, fun _ => ⟨rfl, ?_⟩⟩
    have ey := em_b y 19
    have ey5 := em_b y 5
    have mem : ∀ z ∈ [PyData.int (y % 19 - 9), .int x, .int (y % 5 / 3 * x + e), .int ((tf - 1 - y) * sgn), .int (u * v), .int e], ∃ b : Int, z = .int b ∧ b.natAbs ≤ 10 ^ 9 + 1 := fun z hz => by
      rcases List.mem_cons.mp hz with rfl | hz
      · exact ⟨_, rfl, by omega⟩
      rcases List.mem_cons.mp hz with rfl | hz
      · exact ⟨_, rfl, by omega⟩
      rcases List.mem_cons.mp hz with rfl | hz
      · refine ⟨_, rfl, ?_⟩
        have c : y % 5 / 3 = 0 ∨ y % 5 / 3 = 1 := by omega
        rcases c with c | c <;> rw [c]
        · rw [Int.zero_mul]; omega
        · rw [Int.one_mul]; omega
      rcases List.mem_cons.mp hz with rfl | hz
      · refine ⟨_, rfl, ?_⟩
        have eq1 : (10 : Int) ^ 9 = 1000000000 := by decide
        rcases sg0 with rfl | rfl
        · rw [Int.mul_one]; omega
        · rw [Int.mul_neg, Int.mul_one]; omega
      rcases List.mem_cons.mp hz with rfl | hz
      · exact ⟨_, rfl, by omega⟩
      rcases List.mem_cons.mp hz with rfl | hz
      · exact ⟨_, rfl, by omega⟩
      cases hz
    obtain ⟨b, hb, zb⟩ := pickA kd0 (by simpa using kd1) mem
    subst he
    refine ⟨_, hb, by rw [List.length_map]; omega, _, _, _, _, _, _, rfl, ⟨row ++ [b], by rw [List.map_append]; rfl, by rw [List.length_append, hr]; rfl, fun z hz2 => ?_⟩, by omega⟩
    rcases List.mem_append.mp hz2 with h | h
    · exact hz z h
    · rw [List.mem_singleton.mp h]
      exact Nat.lt_of_le_of_lt zb (by decide)
  · obtain ⟨L, s9, s10, s11, s12, s13, rfl, ⟨row, rfl, hr, hz⟩, hj⟩ := hW
    rw [rangeI_len] at hr
    refine q row _ _ _ _ _ (by omega) fun c => ?_
    by_cases hc : c < row.length
    · rw [List.getD_eq_getElem?_getD, List.getElem?_eq_getElem hc]
      exact hz _ (List.getElem_mem hc)
    · rw [getD_big (by omega)]; unfold Sz; decide
def sp_law_rows_2 : Sp3 := fun ts Q _ => ∃ a ns st w, ts = [.sc a ns, .d (.int st), .d (.int w)] ∧ ns.length ≤ 63 ∧ 0 ≤ st ∧ st ≤ 1000 ∧ w = 0 ∧ ∀ (rows : Mat) (n : Nat), Sq n n rows → 0 < n → n ≤ 4 → (∀ r ∈ rows, SzL 58 r) → Q (.d (matP rows)) ts
theorem v_L2_law_rows_2 {D : Ends3} {a p6 : Addr} {ns : List Int} {st w hd m kd : Int} {s7 s8 s9 s10 s11 s12 s13 s14 s15 s16 s17 s18 s19 s20 : Option T} (hl : ns.length ≤ 63) (h0 : 0 ≤ st) (h1 : st ≤ 1000) (w0 : w = 0) (m0 : 1 ≤ m) (m1 : m ≤ 4) (kd0 : 0 ≤ kd) (kd1 : kd < 6)
    (q : ∀ (rows : Mat) s7 s8 s9 s10 s11 s12 s13, Sq m.toNat m.toNat rows → (∀ r ∈ rows, SzL 31 r) → D.nx [some (.sc a ns), some (.d (.int st)), some (.d (.int w)), some (.d (.int hd)), some (.d (.int m)), some (.d (.int kd)), some (matO p6 rows), s7, s8, s9, s10, s11, s12, s13, s14, s15, s16, s17, s18, s19, s20]) :
    L2_law_rows_2 D [some (.sc a ns), some (.d (.int st)), some (.d (.int w)), some (.d (.int hd)), some (.d (.int m)), some (.d (.int kd)), some (.own p6 []), s7, s8, s9, s10, s11, s12, s13, s14, s15, s16, s17, s18, s19, s20] := by
  have hb2 : 1000 < sizeLine := by decide
  refine ⟨by omega, by omega, fun j r => ∃ L s7 s8 s9 s10 s11 s12 s13, r = [some (.sc a ns), some (.d (.int st)), some (.d (.int w)), some (.d (.int hd)), some (.d (.int m)), some (.d (.int kd)), some (.own p6 L), s7, s8, s9, s10, s11, s12, s13, s14, s15, s16, s17, s18, s19, s20] ∧ (∃ rows : Mat, L = (rows.map fun r => T.d (rowD r)) ∧ Sq j m.toNat rows ∧ ∀ r ∈ rows, SzL 31 r) ∧ (j : Int) ≤ m, ⟨_, _, _, _, _, _, _, _, rfl, ⟨[], rfl, ⟨rfl, fun x hx => nomatch hx⟩, fun x hx => nomatch hx⟩, by omega⟩, fun j x r hx hW => ?_, fun r hW => ?_⟩
  · obtain ⟨L, s7, s8, s9, s10, s11, s12, s13, rfl, ⟨rows, rfl, hs, hz⟩, hj⟩ := hW
    obtain ⟨hj1, rfl⟩ := rangeI_get hx
    have hl0 := hs.1
    refine ⟨sz 0, fun p8 => v_L1_law_rows_2 hl h0 h1 w0 m0 m1 kd0 kd1 (by omega) fun row s9 s10 s11 s12 s13 lr hz2 => ⟨nvs_map _ _, ?_⟩⟩
    rw [fz_own p8 PyData.int row]
    refine ⟨by rw [List.length_map]; omega, _, _, _, _, _, _, _, _, rfl, ⟨rows ++ [row], by rw [List.map_append]; rfl, ⟨by rw [List.length_append, hl0]; rfl, fun r hr => ?_⟩, fun r hr => ?_⟩, by omega⟩
    · rcases List.mem_append.mp hr with h | h
      · exact hs.2 r h
      · rw [List.mem_singleton.mp h]; omega
    · rcases List.mem_append.mp hr with h | h
      · exact hz r h
      · rw [List.mem_singleton.mp h]; exact hz2
  · obtain ⟨L, s7, s8, s9, s10, s11, s12, s13, rfl, ⟨rows, rfl, hs, hz⟩, hj⟩ := hW
    rw [rangeI_len] at hs
    exact q rows _ _ _ _ _ _ _ hs hz
theorem v_L4_law_rows_2 {D : Ends3} {a p6 : Addr} {ns : List Int} {st w hd kd tn : Int} {rows : Mat} {n : Nat} {s7 s8 s9 s10 s11 s12 s13 s15 s16 s17 s18 : Option T} (hl : ns.length ≤ 63) (h0 : 0 ≤ st) (h1 : st ≤ 1000) (n0 : 0 < n) (n4 : n ≤ 4) (t0 : 0 ≤ tn) (t1 : tn ≤ 8) {m : Int} (em : m = (n : Nat)) (hs : Sq n n rows) (hz : ∀ r ∈ rows, SzL 31 r)
    (q : ∀ (rows : Mat) s10 s15 s16 s17 s18, Sq n n rows → (∀ r ∈ rows, SzL 58 r) → D.nx [some (.sc a ns), some (.d (.int st)), some (.d (.int w)), some (.d (.int hd)), some (.d (.int m)), some (.d (.int kd)), some (matO p6 rows), s7, s8, s9, s10, s11, s12, s13, some (.d (.int tn)), s15, s16, s17, s18, none, none]) :
    L4_law_rows_2 D [some (.sc a ns), some (.d (.int st)), some (.d (.int w)), some (.d (.int hd)), some (.d (.int m)), some (.d (.int kd)), some (matO p6 rows), s7, s8, s9, s10, s11, s12, s13, some (.d (.int tn)), s15, s16, s17, s18, none, none] := by
  subst em
  have big : ∀ t, t ≤ 8 → 10 ^ t * 2 ^ 31 < 2 ^ 58 := fun t ht => Nat.lt_of_le_of_lt (Nat.mul_le_mul_right _ (Nat.pow_le_pow_right (by decide) ht)) (by decide)
  refine ⟨by omega, by omega, fun j r => ∃ L s10 s15 s16 s17 s18, r = [some (.sc a ns), some (.d (.int st)), some (.d (.int w)), some (.d (.int hd)), some (.d (.int (n : Nat))), some (.d (.int kd)), some (.own p6 L), s7, s8, s9, s10, s11, s12, s13, some (.d (.int tn)), s15, s16, s17, s18, none, none] ∧ (∃ rows : Mat, L = (rows.map fun r => T.d (rowD r)) ∧ Sq n n rows ∧ ∀ r ∈ rows, ∀ x ∈ r, x.natAbs ≤ 10 ^ j * 2 ^ 31) ∧ j ≤ tn.toNat, ⟨_, _, _, _, _, _, rfl, ⟨rows, rfl, hs, fun r hr x hx => by rw [Nat.pow_zero, Nat.one_mul]; exact Nat.le_of_lt ((hz r hr).mem hx)⟩, Nat.zero_le _⟩, fun j x r hx hW => ?_, fun r hW => ?_⟩
  · obtain ⟨L, s10, s15, s16, s17, s18, rfl, ⟨rows, rfl, hs, hz⟩, hj⟩ := hW
    obtain ⟨hj1, rfl⟩ := rangeI_get hx
    refine ⟨nd0, a, ns, _, rfl, hl, by omega, by omega, fun y y0 y1 => ?_⟩
    have ni : (0 : Int) < (n : Nat) := by omega
    have e1 := em_b y n ni
    have e2 := em_b (y / 4) n ni
    have e3 := em_b (y / 16) 19
    have rest := fun (D : Ends3) (b : Int) (hb : b.natAbs ≤ 9) q => v_R3_law_rows_1 (D := D) (s0 := some (.sc a ns)) (s1 := some (.d (.int st))) (s2 := some (.d (.int w))) (s3 := some (.d (.int hd))) (s4 := some (.d (.int (n : Nat)))) (s5 := some (.d (.int kd))) (s7 := s7) (s8 := s8) (s9 := s9) (s10 := some (.d (.int y))) (s11 := s11) (s12 := s12) (s13 := s13) (s14 := some (.d (.int tn))) (s15 := some (.d (.int (0 + (j : Nat))))) (p6 := p6) (rows := rows) (i := (y % n).toNat) (j := (y / 4 % n).toNat) (io := y % n) (jo := y / 4 % n) (b := b) (z := 10 ^ j * 2 ^ 31) hs n4 (by omega) (by omega) (by omega) (by omega) hb hz (by
      have := big (j + 1) (by omega)
      rw [Nat.pow_succ] at this
      have h58 : (2 : Nat) ^ 58 < 2 ^ 240 := by decide
      omega) q
    have up : ∀ {c : Nat}, c ≤ 10 * (10 ^ j * 2 ^ 31) → c ≤ 10 ^ (j + 1) * 2 ^ 31 := fun {c} h => by
      rw [Nat.pow_succ]
      omega
    refine ⟨ni, divOk (n := 4) pz (by unfold Sz; decide) (by decide), ni, divOk (n := 6) pz (by unfold Sz; decide) (by decide), pz, rfl, rfl, fun hc => ?_, fun hc => rest _ _ (by omega) fun rows' g1 g2 => ⟨_, _, _, _, _, _, rfl, ⟨rows', rfl, g1, fun r hr x hx => up (g2 r hr x hx)⟩, by omega⟩⟩
    refine ⟨sz 3, fun _ => ⟨rfl, divOk (n := 6) pz (by unfold Sz; decide) (by decide), pz, ?_⟩⟩
    obtain ⟨b, hb, hb9⟩ := pickA (l := [.int 0, .int (-2), .int 1]) (P := fun b => b.natAbs ≤ 9) (em_b (y / 16) 3).1 (em_b (y / 16) 3).2 (fun z hz => by
      rcases List.mem_cons.mp hz with rfl | hz
      · exact ⟨0, rfl, by decide⟩
      · rcases List.mem_cons.mp hz with rfl | hz
        · exact ⟨-2, rfl, by decide⟩
        · rcases List.mem_cons.mp hz with rfl | hz
          · exact ⟨1, rfl, by decide⟩
          · cases hz)
    exact ⟨_, hb, rest _ b hb9 fun rows' g1 g2 => ⟨_, _, _, _, _, _, rfl, ⟨rows', rfl, g1, fun r hr x hx => up (g2 r hr x hx)⟩, by omega⟩⟩
  · obtain ⟨L, s10, s15, s16, s17, s18, rfl, ⟨rows, rfl, hs, hz⟩, hj⟩ := hW
    rw [rangeI_len] at hz
    exact q rows _ _ _ _ _ hs fun r hr => SzL.of fun x hx => Nat.lt_of_le_of_lt (hz r hr x hx) (big _ (by omega))
theorem v_law_rows_2 (ts Q E) (h : sp_law_rows_2 ts Q E) : body_law_rows_2 { nx := fun r => finOk ts r ∧ Q (.d .none) (finF ts r), rt := fun x r => finOk ts r ∧ Q x (finF ts r) } (start3 N_law_rows_2 ts) := by
  obtain ⟨a, ns, st, w, rfl, hl, h0, h1, w0, q⟩ := h
  have hb2 : 1000 < sizeLine := by decide
  refine ⟨nd0, a, ns, st, rfl, hl, h0, by omega, fun x x0 x1 => ?_⟩
  have e4 := em_b x 4
  have e6 := em_b (x / 4) 6
  refine ⟨pz, divOk (n := 4) pz (by unfold Sz; decide) (by decide), pz, sz 0, fun p6 => v_L2_law_rows_2 hl h0 h1 w0 (by omega) (by omega) e6.1 e6.2 fun rows s7 s8 s9 s10 s11 s12 s13 hs hz => ?_⟩
  subst w0
  obtain ⟨g, hg, g0, g1⟩ : ∃ g : Int, getI [PyData.int 6, .int 30] 0 = some (.int g) ∧ 1 ≤ g ∧ g ≤ 6 := ⟨6, rfl, by decide, by decide⟩
  refine ⟨divOk (n := 6) pz (by unfold Sz; decide) (by decide), sz 2, fun _ => ⟨rfl, _, hg, by show (0 : Int) < g; omega, sz 6, fun _ => ⟨rfl, ?_⟩⟩⟩
  have eg := em_b (x / 24) g (by omega)
  obtain ⟨tn, ht, t0, t1⟩ := pickA (l := [.int 0, .int 0, .int 0, .int 0, .int 0, .int (3 + x / 24 % g)]) (P := fun t => 0 ≤ t ∧ t ≤ 8) e6.1 (by simpa using e6.2) (fun z hz => by
    simp only [List.mem_cons, List.not_mem_nil, or_false] at hz
    rcases hz with rfl | rfl | rfl | rfl | rfl | rfl
    all_goals first | exact ⟨0, rfl, by decide, by decide⟩ | exact ⟨_, rfl, by omega, by omega⟩)
  refine ⟨_, ht, ?_⟩
  have em : (1 + x % 4 : Int) = (((1 + x % 4).toNat : Nat) : Int) := by omega
  refine v_L4_law_rows_2 (n := (1 + x % 4).toNat) hl h0 h1 (by omega) (by omega) t0 t1 em hs hz fun rows' s10 s15 s16 s17 s18 hs2 hz2 => ⟨nvs_map _ _, ?_⟩
  rw [fz_own p6 rowD rows']
  have hl' := hs2.1
  refine lc_gen (rows'.map rowT) (by simp) (by rw [List.length_map]; omega) (fun r0 h0' i x y hx hy R S ku => ?_) fun r0 h0' pn => ⟨nvs_d _, ?_⟩
  · simp only [wp, puts, List.set_cons_succ, List.set_cons_zero] at h0'; subst h0'
    obtain ⟨u, hu, rfl⟩ := get_fun hx
    obtain rfl := get_map2 hy hu
    exact ⟨fun _ => ku _ rfl, nofun⟩
  · simp only [wp, puts, List.set_cons_succ, List.set_cons_zero] at h0'; subst h0'
    rw [fz_outs]
    exact ⟨⟨⟩, q rows' _ hs2 (by omega) (by omega) hz2⟩
end L3
set_option pp.maxSteps 600
namespace L3
open PySem PySem.Spec PyProof.Rows L2
local macro_rules | `(tactic| wtm_at "sh") => `(tactic| conv => whnf)
/-! ## lattices seen otherwise, plain -/
theorem rot_one2 (a b c d : Int) : detN 2 [[b, a], [d, c]] = 0 - detN 2 [[a, b], [c, d]] := by
  simp [detN, sumR, minor, sg]; grind
theorem rot_one3 (a b c d e f g h i : Int) : detN 3 [[b, c, a], [e, f, d], [h, i, g]] = detN 3 [[a, b, c], [d, e, f], [g, h, i]] := by
  simp [detN, sumR, minor, sg]; grind
theorem rot_one4 (a b c d e f g h i j k l m n o p : Int) : detN 4 [[b, c, d, a], [f, g, h, e], [j, k, l, i], [n, o, p, m]] = 0 - detN 4 [[a, b, c, d], [e, f, g, h], [i, j, k, l], [m, n, o, p]] := by
  simp [detN, sumR, minor, sg]; grind
theorem lenA1 {r : List Int} (h : r.length = 1) : ∃ a, r = [a] := by
  match r, h with
  | [a], _ => exact ⟨a, rfl⟩
theorem lenA2 {α : Type} {r : List α} (h : r.length = 2) : ∃ a b, r = [a, b] := by
  match r, h with
  | [a, b], _ => exact ⟨a, b, rfl⟩
theorem lenA3 {α : Type} {r : List α} (h : r.length = 3) : ∃ a b c, r = [a, b, c] := by
  match r, h with
  | [a, b, c], _ => exact ⟨a, b, c, rfl⟩
theorem lenA4 {α : Type} {r : List α} (h : r.length = 4) : ∃ a b c d, r = [a, b, c, d] := by
  match r, h with
  | [a, b, c, d], _ => exact ⟨a, b, c, d, rfl⟩
def rotR (k : Nat) (r : List Int) : List Int := r.drop k ++ r.take k
theorem rot_len {k : Nat} {r : List Int} : (rotR k r).length = r.length := by
  unfold rotR
  rw [List.length_append, List.length_drop, List.length_take]; omega
theorem rot_succ {k : Nat} {r : List Int} (h : k < r.length) : rotR (k + 1) r = rotR 1 (rotR k r) := by
  unfold rotR
  rw [List.drop_eq_getElem_cons h, List.cons_append]
  show r.drop (k + 1) ++ r.take (k + 1) = (r.drop (k + 1) ++ r.take k) ++ [r[k]]
  rw [List.append_assoc, List.take_add_one, List.getElem?_eq_getElem h]; rfl
theorem rot_det1 {n : Nat} {M : Mat} (h4 : n ≤ 4) (hs : Sq n n M) : (detN n (M.map (rotR 1))).natAbs = (detN n M).natAbs := by
  have hl := hs.1
  rcases (show n = 0 ∨ n = 1 ∨ n = 2 ∨ n = 3 ∨ n = 4 by omega) with rfl | rfl | rfl | rfl | rfl
  · rfl
  · match M, hl with
    | [r], _ =>
      obtain ⟨a, rfl⟩ := lenA1 (hs.2 r (by simp))
      rfl
  · obtain ⟨r, s, rfl⟩ := lenA2 hl
    obtain ⟨a, b, rfl⟩ := lenA2 (hs.2 r (by simp))
    obtain ⟨c, d, rfl⟩ := lenA2 (hs.2 s (by simp))
    show (detN 2 [[b, a], [d, c]]).natAbs = _
    rw [rot_one2]; omega
  · obtain ⟨r, s, t, rfl⟩ := lenA3 hl
    obtain ⟨a, b, c, rfl⟩ := lenA3 (hs.2 r (by simp))
    obtain ⟨d, e, f, rfl⟩ := lenA3 (hs.2 s (by simp))
    obtain ⟨g, h, i, rfl⟩ := lenA3 (hs.2 t (by simp))
    show (detN 3 [[b, c, a], [e, f, d], [h, i, g]]).natAbs = _
    rw [rot_one3]
  · obtain ⟨r, s, t, u, rfl⟩ := lenA4 hl
    obtain ⟨a, b, c, d, rfl⟩ := lenA4 (hs.2 r (by simp))
    obtain ⟨e, f, g, h, rfl⟩ := lenA4 (hs.2 s (by simp))
    obtain ⟨i, j, k, l, rfl⟩ := lenA4 (hs.2 t (by simp))
    obtain ⟨m, n, o, p, rfl⟩ := lenA4 (hs.2 u (by simp))
    show (detN 4 [[b, c, d, a], [f, g, h, e], [j, k, l, i], [n, o, p, m]]).natAbs = _
    rw [rot_one4]; omega
theorem rot_det {n : Nat} {M : Mat} (h4 : n ≤ 4) (hs : Sq n n M) : ∀ k, k ≤ n → (detN n (M.map (rotR k))).natAbs = (detN n M).natAbs
  | 0, _ => by
    have : M.map (rotR 0) = M := by
      have : rotR 0 = id := funext fun r => by unfold rotR; simp
      rw [this, List.map_id]
    rw [this]
  | k + 1, hk => by
    have ih := rot_det h4 hs k (by omega)
    have sq : Sq n n (M.map (rotR k)) := hs.mapR fun r => rot_len
    have h1 := rot_det1 h4 sq
    rw [List.map_map] at h1
    rw [← ih, ← h1]
    congr 2
    refine List.map_congr_left fun r hr => ?_
    exact rot_succ (by rw [hs.2 r hr]; omega)
/-- rows from below upward -/
theorem same_rev {n : Nat} {M : Mat} (h4 : n ≤ 4) (hs : Sq n n M) : Same n M M.reverse := by
  have hl := hs.1
  have m1 : ∀ r ∈ M.reverse, Span n M r := fun r hr => .of_mem hs (List.mem_reverse.mp hr)
  rcases (show n = 0 ∨ n = 1 ∨ n = 2 ∨ n = 3 ∨ n = 4 by omega) with rfl | rfl | rfl | rfl | rfl
  · match M, hl with
    | [], _ => exact .refl hs
  · match M, hl with
    | [r], _ => exact .refl hs
  · obtain ⟨r, s, rfl⟩ := lenA2 hl
    exact Same.swap (i := 0) (j := 1) h4 hs (by decide) rfl rfl
  · obtain ⟨r, s, t, rfl⟩ := lenA3 hl
    exact Same.swap (i := 0) (j := 2) h4 hs (by decide) rfl rfl
  · obtain ⟨r, s, t, u, rfl⟩ := lenA4 hl
    have h1 := Same.swap (i := 0) (j := 3) h4 hs (by decide) rfl rfl
    exact h1.trans hs (Same.swap (i := 1) (j := 2) (rows := [u, s, t, r]) h4 h1.sq (by decide) rfl rfl)
theorem dot_times {t : Int} : ∀ (x y : List Int), dot (timesR t x) (timesR t y) = t * t * dot x y
  | [], y => by
    show (0 : Int) = _ * 0
    simp
  | a :: x, [] => by
    show (0 : Int) = _ * 0
    simp
  | a :: x, b :: y => by
    show a * t * (b * t) + dot (timesR t x) (timesR t y) = t * t * (a * b + dot x y)
    rw [dot_times x y]; grind
theorem gm_neg (A B : Mat) : gm (A.map (timesR (-1))) (B.map (timesR (-1))) = gm A B := by
  unfold gm
  rw [List.map_map]
  refine List.map_congr_left fun r _ => ?_
  show pr (timesR (-1) r) (B.map (timesR (-1))) = pr r B
  unfold pr
  rw [List.map_map]
  refine List.map_congr_left fun s _ => ?_
  show dot (timesR (-1) r) (timesR (-1) s) = dot r s
  rw [dot_times]; omega
theorem Dd_neg (P : Mat) (a : Nat) : Dd (P.map (timesR (-1))) a = Dd P a := by
  unfold Dd
  rw [← List.map_take, gm_neg]
theorem Mu_neg (P : Mat) (a : Nat) (x y : List Int) : Mu (P.map (timesR (-1))) a (timesR (-1) x) (timesR (-1) y) = Mu P a x y := by
  unfold Mu
  rw [← List.map_take]
  show detN (a + 1) (gm ((P.take a).map (timesR (-1)) ++ [x].map (timesR (-1))) ((P.take a).map (timesR (-1)) ++ [y].map (timesR (-1)))) = _
  rw [← List.map_append, ← List.map_append, gm_neg]
theorem getD_neg (P : Mat) (j : Nat) : (P.map (timesR (-1))).getD j [] = timesR (-1) (P.getD j []) := by
  rw [List.getD_eq_getElem?_getD, List.getElem?_map, List.getD_eq_getElem?_getD]
  cases P[j]? <;> rfl
theorem lam_neg (P : Mat) (i j : Nat) : lam (P.map (timesR (-1))) i j = lam P i j := by
  unfold lam
  rw [getD_neg, getD_neg, Mu_neg]
theorem ShB_neg (P : Mat) (i : Nat) : ShB (P.map (timesR (-1))) i ↔ ShB P i := by
  unfold ShB
  simp only [lam_neg, Dd_neg]
theorem standB_neg (P : Mat) (k : Nat) : standB (P.map (timesR (-1))) k = standB P k := by
  unfold standB
  simp only [lam_neg, Dd_neg]
theorem redB_of {n : Nat} {P : Mat} (hl : P.length = n) (sh : ∀ i, i < n → ShB P i) (lo : ∀ k, k + 1 < n → standB P k = true) : redB P = true := by
  unfold redB smallB
  rw [hl, Bool.and_eq_true]
  exact ⟨decide_eq_true sh, decide_eq_true fun k hk => lo k (by omega)⟩
theorem Same.symm' {n : Nat} {M N : Mat} (h0 : Sq n n M) (h : Same n M N) : Same n N M := ⟨h0, h.dt.symm, h.ps, h.sp⟩
theorem sameB_same {n : Nat} {M N P : Mat} (h4 : n ≤ 4) (n0 : 0 < n) (hs : Sq n n M) (hd : detN n M ≠ 0) (hN : Same n M N) (hP : Same n M P) : sameB N P = true := by
  have NP := (hN.symm' hs).trans hN.sq hP
  exact sameB_of h4 hN.sq n0 (by have := hN.dt; omega) hP.sq NP.dt NP.sp
theorem same_neg {n : Nat} {P : Mat} (h4 : n ≤ 4) (hs : Sq n n P) : Same n P (P.map (timesR (-1))) := by
  refine ⟨hs.mapR fun r => timesR_len, ?_, fun r hr => ?_, fun r hr => ?_⟩
  · rw [det_times n P hs, Int.natAbs_mul, Int.natAbs_pow]
    show _ * 1 ^ n = _
    rw [Nat.one_pow, Nat.mul_one]
  · obtain ⟨s, h, rfl⟩ := List.mem_map.mp hr
    have e : timesR (-1) s = s.map (0 - ·) := List.map_congr_left fun a _ => by omega
    rw [e]
    exact span_neg hs (.of_mem hs h)
  · have h := Span.of_mem (hs.mapR (f := timesR (-1)) fun r => timesR_len) (List.mem_map_of_mem (f := timesR (-1)) hr)
    have h2 := span_neg (hs.mapR (f := timesR (-1)) fun r => timesR_len) h
    have e : (timesR (-1) r).map (0 - ·) = r := by
      unfold timesR
      rw [List.map_map]
      refine (List.map_congr_left fun a _ => ?_).trans (List.map_id r)
      show 0 - a * -1 = a
      omega
    rw [e] at h2
    exact h2
theorem stand_same {n : Nat} {M N S T : Mat} (h4 : n ≤ 4) (hs : Sq n n M) (hd : detN n M ≠ 0) (h : Same n M N) (hS : Stand n M S) (hT : Stand n N T) : T = S :=
  stand_eq h4 hs h.sq hd h.dt hS hT h.sp
theorem Stand.same {n : Nat} {M S : Mat} (h : Stand n M S) : Same n M S := ⟨h.st.sq, h.st.dt, h.st.sp, h.st.ps⟩
theorem stand_times {n : Nat} {M S : Mat} {t : Int} (t0 : 0 < t) (hs : Sq n n M) (h : Stand n M S) : Stand n (M.map (timesR t)) (S.map (timesR t)) := by
  have sqS := h.st.sq
  have z : timesR t (List.replicate n 0) = List.replicate n 0 := getD_ext (n := n) (by rw [timesR_len, List.length_replicate]) List.length_replicate fun c hc => by rw [timesR_at, rep_getD hc]; simp
  have at_ : ∀ (i : Nat) (r : List Int), (S.map (timesR t))[i]? = some r → ∃ s, S[i]? = some s ∧ r = timesR t s := fun i r hr => by
    rw [List.getElem?_map] at hr
    cases e : S[i]? with
    | none => rw [e] at hr; cases hr
    | some s => rw [e] at hr; cases hr; exact ⟨s, rfl, rfl⟩
  refine ⟨⟨sqS.mapR fun r => timesR_len, fun i r hr c hc => ?_, fun i r hr => ?_, ?_, fun r hr => ?_, fun r hr => ?_⟩, fun i r hr => ?_, fun i j r s hr hs2 hij => ?_⟩
  · obtain ⟨s, hs2, rfl⟩ := at_ i r hr
    rw [timesR_at, h.st.tri i s hs2 c hc, Int.zero_mul]
  · obtain ⟨s, hs2, rfl⟩ := at_ i r hr
    rw [timesR_at]
    exact Int.mul_nonneg (h.st.dg i s hs2) (by omega)
  · rw [det_times n M hs, det_times n S sqS, Int.natAbs_mul, Int.natAbs_mul, h.st.dt]
  · obtain ⟨s, hs2, rfl⟩ := List.mem_map.mp hr
    exact span_map hs z (fun x m y => times_add x m y) (h.st.sp s hs2)
  · obtain ⟨s, hs2, rfl⟩ := List.mem_map.mp hr
    exact span_map sqS z (fun x m y => times_add x m y) (h.st.ps s hs2)
  · obtain ⟨s, hs2, rfl⟩ := at_ i r hr
    rw [timesR_at]
    exact Int.mul_pos (h.pos i s hs2) t0
  · obtain ⟨r', hr', rfl⟩ := at_ i r hr
    obtain ⟨s', hs', rfl⟩ := at_ j s hs2
    rw [timesR_at, timesR_at]
    obtain ⟨h1, h2⟩ := h.red i j r' s' hr' hs' hij
    exact ⟨Int.mul_nonneg h1 (by omega), Int.mul_lt_mul_of_pos_right h2 t0⟩
theorem dd_one {n : Nat} {P : Mat} (hs : Sq n n P) (n0 : 0 < n) : Dd P 1 = dot (P.getD 0 []) (P.getD 0 []) := by
  rw [Dd_succ (getD_some (by rw [hs.1]; exact n0)), Mu_zero]
end L3
set_option pp.maxSteps 600
namespace L3
open PySem PySem.Spec PyProof.Rows L2
local macro_rules | `(tactic| wtm_at "sh") => `(tactic| conv => whnf)
def N_law_power : List Str := ["_law_one", "_law_many", "_law_found", "_law_k"]
def body_law_power : TS3 := (xSeq (xAsg (xD (xC (.int 1))) (xGName 2))
  (xSeq (xFor (xR1 (xView 1)) (xGName 3) (xAsg (xD (x2 kMul (xView 2) (xView 0))) (xGName 2)))
  (xRet (xMove 2))))
def sp_law_power : Sp3 := fun ts Q _ => ∃ x m b, ts = [.d (.int x), .d (.int m)] ∧ 0 ≤ m ∧ m ≤ 10 ∧ Sz b x ∧ b ≤ 1000 ∧ Q (.d (.int (x ^ m.toNat))) ts
theorem v_law_power (ts Q E) (h : sp_law_power ts Q E) : body_law_power { nx := fun r => finOk ts r ∧ Q (.d .none) (finF ts r), rt := fun x r => finOk ts r ∧ Q x (finF ts r) } (start3 N_law_power ts) := by
  obtain ⟨x, m, b, rfl, m0, m1, zx, hb, q⟩ := h
  refine ⟨by omega, by omega, fun i r => ∃ w s3, r = [some (.d (.int x)), some (.d (.int m)), some (.d (.int w)), s3] ∧ w = x ^ i ∧ i ≤ m.toNat, ⟨_, _, rfl, (Int.pow_zero _).symm, by omega⟩, fun i y r hy hW => ?_, fun r hW => ?_⟩
  · obtain ⟨w, s3, rfl, rfl, hi⟩ := hW
    obtain ⟨hi1, rfl⟩ := rangeI_get hy
    have zp : Sz (b * i + 1) (x ^ i) := by
      unfold Sz at zx ⊢
      rw [Int.natAbs_pow]
      have h1 : x.natAbs ^ i ≤ (2 ^ b) ^ i := Nat.pow_le_pow_left (by omega) i
      rw [← Nat.pow_mul] at h1
      have h2 : (2 : Nat) ^ (b * i) < 2 ^ (b * i + 1) := Nat.pow_lt_pow_right (by decide) (by omega)
      omega
    have : b * i ≤ 1000 * 10 := Nat.mul_le_mul hb (by omega)
    refine ⟨mulOk zp zx (by omega), _, _, rfl, ?_, by omega⟩
    show x ^ i * x = x ^ (i + 1)
    rw [Int.pow_succ]
  · obtain ⟨w, s3, rfl, hw, hi⟩ := hW
    rw [rangeI_len] at hw
    subst hw
    exact ⟨⟨⟩, q⟩
def N_law_by : List Str := ["_law_rows_here", "_law_factor", "_law_row", "_law_number_here"]
def body_law_by : TS3 := (xRet (xD (x1 cTup (xFz (xLc (xSeqI (xView 0)) (xGName 2) xYes (xD (x1 cTup (xFz (xLc (xSeqI (xView 2)) (xGName 3) xYes (xD (x2 kMul (xView 1) (xView 3))) [3])))) [2])))))
def sp_law_by : Sp3 := fun ts Q _ => ∃ rows f b c, ts = [.d (matP rows), .d (.int f)] ∧ rows.length ≤ 1000 ∧ (∀ r ∈ rows, r.length ≤ 1000) ∧ (∀ r ∈ rows, SzL b r) ∧ Sz c f ∧ b ≤ 1000 ∧ c ≤ 1000 ∧ Q (.d (matP (rows.map (timesR f)))) ts
theorem v_law_by (ts Q E) (h : sp_law_by ts Q E) : body_law_by { nx := fun r => finOk ts r ∧ Q (.d .none) (finF ts r), rt := fun x r => finOk ts r ∧ Q x (finF ts r) } (start3 N_law_by ts) := by
  obtain ⟨rows, f, b, c, rfl, hl, hr, hz, zf, hb, hc, q⟩ := h
  have hb2 : 1000 < sizeLine := by decide
  refine lc_gen (rows.map fun r => rowT (timesR f r)) (by simp) (by rw [List.length_map]; omega) (fun r0 h0 i u y hu hy R S ku => ?_) fun r0 h0 p4 => ?_
  · simp only [wp, puts, List.set_cons_succ, List.set_cons_zero] at h0; subst h0
    obtain ⟨v, hv, rfl⟩ := get_fun hu
    obtain rfl := get_map2 hy hv
    have mv := List.mem_of_getElem? hv
    have lv := hr v mv
    refine ⟨fun _ => ?_, nofun⟩
    refine lc_gen ((timesR f v).map PyData.int) (by rw [List.length_map, List.length_map, timesR_len]) (by rw [List.length_map]; omega) (fun r0 h0 i u y hu hy R' S' ku' => ?_) fun r0 h0 p5 => ?_
    · simp only [wp, puts, List.set_cons_succ, List.set_cons_zero] at h0; subst h0
      obtain ⟨a, ha, rfl⟩ := get_fun hu
      have hy : ((v.map (· * f)).map PyData.int)[i]? = some y := hy
      rw [List.map_map] at hy
      obtain rfl := get_map2 hy ha
      refine ⟨fun _ => ⟨mulOk zf (mem_sz (hz v mv) ha) (by omega), ?_⟩, nofun⟩
      show R' (.d (.int (f * a))) _
      rw [Int.mul_comm]
      exact ku' _ rfl
    simp only [wp, puts, List.set_cons_succ, List.set_cons_zero] at h0; subst h0
    refine ⟨nvs_d _, ?_⟩
    rw [fz_outs]
    exact ku _ rfl
  simp only [wp, puts, List.set_cons_succ, List.set_cons_zero] at h0; subst h0
  refine ⟨nvs_d _, ?_⟩
  rw [fz_outs]
  rw [show (rows.map fun r => rowT (timesR f r)) = (rows.map (timesR f)).map rowT by rw [List.map_map]; rfl]
  exact ⟨⟨⟩, q⟩
def L1_law_seen_right : TS3 := (xFor (xSeqI (xFz (xTup (xCons (xMove 0) (xCons (xMove 1) (xCons (xMove 2) (xCons (xRevT (xView 0)) xNil))))))) (xGName 3) (xSeq (xIfS (xOr (xTest (x2 kNe (xFz (xCall sp_standing xNoE (xArg (xView 3) xANil))) (xView 1))) (xOr (xTest (x2 kNe (xFz (xCall sp_measure xNoE (xArg (xView 3) xANil))) (xFz (xCall sp_measure xNoE (xArg (xView 0) xANil))))) (xNot (xTest (xFz (xCall sp_same_lattice xNoE (xArg (xView 3) (xArg (xView 2) xANil)))))))) (xRet (xD (xC (.bool false)))) xNext)
  (xIfS (xOr (xNot (xTest (xFz (xCall sp_reduced_shown xNoE (xArg (xView 3) (xArg (xView 2) xANil)))))) (xTest (x2 kNe (xFz (xLc (xSeqI (xView 0)) (xGName 7) (xNot (xTest (xFz (xCall sp_has_row xNoE (xArg (xView 3) (xArg (xView 7) xANil)))))) (xMove 7) [7])) (xFz (xLst xNil))))) (xRet (xD (xC (.bool false)))) xNext)))
def N_law_seen_right : List Str := ["_law_rows_here", "_law_stand", "_law_found", "_law_one", "_law_many", "_law_square", "_law_number_here", "_law_row"]
def body_law_seen_right : TS3 := (xSeq (xAsg (xCall sp_standing xNoE (xArg (xView 0) xANil)) (xGName 1))
  (xSeq (xAsg (xCall sp_reduced xNoE (xArg (xView 0) xANil)) (xGName 2))
  (xSeq L1_law_seen_right
  (xSeq (xIfS (xNot (xTest (xFz (xCall sp_reduced_shown xNoE (xArg (xView 0) (xArg (xFz (xCall sp_law_by xNoE (xArg (xView 2) (xArg (xNeg (xC (.int 1))) xANil)))) xANil)))))) (xRet (xD (xC (.bool false)))) xNext)
  (xSeq (xAsg (xD (x1 cLen (xView 0))) (xGName 4))
  (xSeq (xAsg (xD (x1 cSum (xFz (xLc (xSeqI (x2 cIx (xView 2) (xC (.int 0)))) (xGName 6) xYes (xD (x2 kMul (xView 6) (xView 6))) [6])))) (xGName 5))
  (xRet (xD (x2 kLe (xFz (xCall sp_law_power xNoE (xArg (xView 5) (xArg (xView 4) xANil)))) (x2 kMul (x2 kMul (xFz (xCall sp_law_power xNoE (xArg (xC (.int 2)) (xArg (x2 kDiv (x2 kMul (xView 4) (x2 kSub (xView 4) (xC (.int 1)))) (xC (.int 2))) xANil)))) (xFz (xCall sp_measure xNoE (xArg (xView 0) xANil)))) (xFz (xCall sp_measure xNoE (xArg (xView 0) xANil)))))))))))))
theorem shp_matP {M : Mat} (h : M.length ≤ 1000) (k : ∀ r ∈ M, r.length ≤ 1000) : SeqAt.shaped (matP M) = true := by
  have : 1000 < sizeLine := by decide
  exact nest_shaped (nest_matP (by omega) fun r hr => by have := k r hr; omega) (by decide)
theorem matP_eqv {M : Mat} : PyData.eqv (matP M) (matP M) = true := by
  show PyData.eqvAll (M.map rowT) (M.map rowT) = true
  exact rows_eqv
theorem sum_sq : ∀ x : List Int, (x.map fun a => a * a).sum = dot x x
  | [] => rfl
  | a :: x => by
    rw [List.map_cons, List.sum_cons, sum_sq x]; rfl
def rest_sr : TS3 := xRet (xD (x2 kLe (xFz (xCall sp_law_power xNoE (xArg (xView 5) (xArg (xView 4) xANil)))) (x2 kMul (x2 kMul (xFz (xCall sp_law_power xNoE (xArg (xC (.int 2)) (xArg (x2 kDiv (x2 kMul (xView 4) (x2 kSub (xView 4) (xC (.int 1)))) (xC (.int 2))) xANil)))) (xFz (xCall sp_measure xNoE (xArg (xView 0) xANil)))) (xFz (xCall sp_measure xNoE (xArg (xView 0) xANil))))))
theorem v_sr_end {D : Ends3} {s1 s2 s3 s6 s7 : Option T} {x4 x5 : Int} {n : Nat} {M P : Mat} (e4 : x4 = (n : Nat)) (e5 : x5 = dot (P.getD 0 []) (P.getD 0 [])) (hs : Sq n n M) (n0 : 0 < n) (h4 : n ≤ 4) (hd : detN n M ≠ 0) (hz : ∀ r ∈ M, SzL 58 r) (S : Same n M P) (sh : ∀ i, i < n → ShB P i) (lo : ∀ k, k + 1 < n → standB P k = true) (zP : ∀ r ∈ P, SzL 62 r)
    (k : D.rt (.d (.bool true)) [some (.d (matP M)), s1, s2, s3, some (.d (.int x4)), some (.d (.int x5)), s6, s7]) : rest_sr D [some (.d (matP M)), s1, s2, s3, some (.d (.int x4)), some (.d (.int x5)), s6, s7] := by
  subst e4; subst e5
  have hl := hs.1
  have sqP := S.sq
  have lP := sqP.1
  have dP : detN n P ≠ 0 := by have := S.dt; omega
  have hb0 : P[0]? = some (P.getD 0 []) := getD_some (by omega)
  have mb0 := List.mem_of_getElem? hb0
  have zd : Sz 130 (dot (P.getD 0 []) (P.getD 0 [])) := by
    have h := dot_le (c := 62) h4 (sqP.2 _ mb0) (zP _ mb0)
    have p := (dot_self (P.getD 0 [])).1
    have e : ((2 ^ 126 : Nat) : Int) = (2 : Int) ^ (2 * 62 + 2) := by simp
    have e2 : (2 : Nat) ^ 126 < 2 ^ 130 := by decide
    unfold Sz
    omega
  have zM : Sz 300 ((detN M.length M).natAbs : Int) := by
    rw [hl]
    have h := (det_Sz h4 hs hz).mono (m := 300) (by have : n * (58 + 2) ≤ 4 * 60 := Nat.mul_le_mul_right _ h4; omega)
    unfold Sz at h ⊢
    rw [Int.natAbs_natCast]; exact h
  have p2 : ∀ k : Nat, k ≤ 6 → Sz 7 ((2 : Int) ^ k) := fun k hk => by
    rcases (show k = 0 ∨ k = 1 ∨ k = 2 ∨ k = 3 ∨ k = 4 ∨ k = 5 ∨ k = 6 by omega) with rfl | rfl | rfl | rfl | rfl | rfl | rfl <;> (unfold Sz; decide)
  have nn : (n : Int) * ((n : Int) - 1) / 2 = ((n * (n - 1) / 2 : Nat) : Int) := by
    obtain ⟨m, rfl⟩ : ∃ m, n = m + 1 := ⟨n - 1, by omega⟩
    rw [show ((m + 1 : Nat) : Int) - 1 = (m : Nat) by omega, show m + 1 - 1 = m by omega]
    rw [Int.natCast_ediv, Int.natCast_mul]; rfl
  have n6 : n * (n - 1) / 2 ≤ 6 := by
    rcases (show n = 1 ∨ n = 2 ∨ n = 3 ∨ n = 4 by omega) with rfl | rfl | rfl | rfl <;> decide
  have fp := first_pow (Dd_pos h4 sqP dP) sh lo n (Nat.le_refl _)
  rw [dd_det n0 h4 sqP dP, dd_one sqP n0] at fp
  have eq2 : detN n P * detN n P = ((detN M.length M).natAbs : Int) * ((detN M.length M).natAbs : Int) := by
    rw [hl, ← S.dt, Int.natAbs_mul_self']
  have et : ((n : Int) * ((n : Int) - 1) / 2).toNat = n * (n - 1) / 2 := by rw [nn]; rfl
  refine ⟨nd0, _, _, 130, rfl, by omega, by omega, zd, by decide, mulOkL (by omega) (by omega), divOk (n := 3) pz (by unfold Sz; decide) (by decide), nd0, 2, _, 2, rfl, by omega, by omega, by unfold Sz; decide, by decide, nd0, M, 58, rfl, by omega, latB_of hs n0 hd, hz, by decide, ?_, nd0, M, 58, rfl, by omega, latB_of hs n0 hd, hz, by decide, ?_, ?_⟩
  · rw [et]
    exact mulOk (p2 _ n6) zM (by decide)
  · rw [et]
    exact mulOk ((p2 _ n6).mul zM) zM (by decide)
  · show D.rt (.d (.bool (decide (dot (P.getD 0 []) (P.getD 0 []) ^ ((n : Nat) : Int).toNat ≤ 2 ^ ((n : Int) * ((n : Int) - 1) / 2).toNat * ((detN M.length M).natAbs : Int) * ((detN M.length M).natAbs : Int))))) _
    rw [et, decide_eq_true (by
      rw [show ((n : Nat) : Int).toNat = n by omega, Int.mul_assoc, ← eq2]
      exact fp)]
    exact k
def sp_law_seen_right : Sp3 := fun ts Q _ => ∃ M n, ts = [.d (matP M)] ∧ Sq n n M ∧ 0 < n ∧ n ≤ 4 ∧ detN n M ≠ 0 ∧ (∀ r ∈ M, SzL 58 r) ∧ Q (.d (.bool true)) ts
theorem v_law_seen_right (ts Q E) (h : sp_law_seen_right ts Q E) : body_law_seen_right { nx := fun r => finOk ts r ∧ Q (.d .none) (finF ts r), rt := fun x r => finOk ts r ∧ Q x (finF ts r) } (start3 N_law_seen_right ts) := by
  obtain ⟨M, n, rfl, hs, n0, h4, hd, hz, q⟩ := h
  have hb2 : 1000 < sizeLine := by decide
  have hl := hs.1
  refine ⟨nd0, M, 58, rfl, by omega, latB_of hs n0 hd, hz, by decide, fun S hS => ?_⟩
  rw [hl] at hS
  refine ⟨nd0, M, 58, rfl, by omega, latB_of hs n0 hd, hz, by decide, fun P hP => ?_⟩
  rw [hl] at hP
  have zP := red_short n0 h4 hs hd hP.same hP.sh hP.lo hz
  have zS := hS.sz h4 hs hz
  have sqP := hP.same.sq
  have dP : detN n P ≠ 0 := by have := hP.same.dt; omega
  have redP : redB P = true := redB_of sqP.1 hP.sh hP.lo
  have rv := same_rev h4 hs
  have s0 := rangeI_len
  have cand : ∀ N, (N = M ∨ N = S ∨ N = P ∨ N = M.reverse) → Same n M N ∧ ∀ r ∈ N, SzL 245 r := fun N hN => by
    rcases hN with rfl | rfl | rfl | rfl
    · exact ⟨.refl hs, fun r hr => (hz r hr).mono (by decide)⟩
    · exact ⟨hS.same, fun r hr => (zS r hr).mono (by omega)⟩
    · exact ⟨hP.same, fun r hr => (zP r hr).mono (by decide)⟩
    · exact ⟨rv, fun r hr => (hz r (List.mem_reverse.mp hr)).mono (by decide)⟩
  refine ⟨sz 4, fun i r => ∃ s3, r = [some (.d (matP M)), some (.d (matP S)), some (.d (matP P)), s3, none, none, none, none], ⟨_, rfl⟩, fun i x r hx hW => ?_, fun r hW => ?_⟩
  · obtain ⟨s3, rfl⟩ := hW
    obtain ⟨N, rfl, hN⟩ : ∃ N, x = matP N ∧ (N = M ∨ N = S ∨ N = P ∨ N = M.reverse) := by
      have hm := List.mem_of_getElem? hx
      have hm : x ∈ [matP M, matP S, matP P, .tuple (M.map rowT).reverse] := hm
      simp only [List.mem_cons, List.not_mem_nil, or_false] at hm
      rcases hm with rfl | rfl | rfl | rfl
      · exact ⟨_, rfl, .inl rfl⟩
      · exact ⟨_, rfl, .inr (.inl rfl)⟩
      · exact ⟨_, rfl, .inr (.inr (.inl rfl))⟩
      · exact ⟨M.reverse, by rw [← List.map_reverse], .inr (.inr (.inr rfl))⟩
    obtain ⟨SN, zN⟩ := cand N hN
    have sqN := SN.sq
    have lN := sqN.1
    have dN : detN n N ≠ 0 := by have := SN.dt; omega
    have latN := latB_of sqN n0 dN
    refine ⟨nd0, N, 245, rfl, by omega, latN, zN, by decide, fun T hT => ?_⟩
    rw [lN] at hT
    have eT : T = S := stand_same h4 hs hd SN hS hT
    subst eT
    have shS : SeqAt.shaped (matP T) = true := shp_matP (by rw [hS.st.sq.1]; omega) fun r hr => by rw [hS.st.sq.2 r hr]; omega
    refine ⟨shS, shS, fun hc => ?_, fun _ => ⟨nd0, N, 245, rfl, by omega, latN, zN, by decide, nd0, M, 58, rfl, by omega, latB_of hs n0 hd, hz, by decide, rfl, rfl, fun hc => ?_, fun _ => ?_⟩⟩
    · have hc : (!PyData.eqv (matP T) (matP T)) = true := hc
      rw [matP_eqv] at hc; cases hc
    · have hc : (!decide (((detN N.length N).natAbs : Int) = ((detN M.length M).natAbs : Int))) = true := hc
      rw [lN, hl, SN.dt, decide_eq_true rfl] at hc
      cases hc
    have sB : sameB N P = true := sameB_same h4 n0 hs hd SN hP.same
    have pP : ∀ r ∈ P, r.length ≤ 1000 := fun r hr => by rw [sqP.2 r hr]; omega
    have zP2 : ∀ r ∈ P, SzL 245 r := fun r hr => (zP r hr).mono (by decide)
    refine ⟨nd0, N, P, 245, rfl, by omega, latN, zN, by rw [sqP.1]; omega, pP, fun _ => by rw [sqP.1]; exact h4, zP2, by decide, ?_⟩
    rw [sB]
    refine ⟨nofun, fun _ => ?_⟩
    refine ⟨nd0, N, P, 245, rfl, by omega, latN, zN, by rw [sqP.1]; omega, pP, fun _ => by rw [sqP.1]; exact h4, zP2, by decide, ?_⟩
    rw [sB, redP]
    refine ⟨nofun, fun _ => ?_⟩
    refine lf_gen rowT (fun r => !hasB N r) M (by omega) (fun r0 h0 u hu R S' k1 k2 => ?_) fun r0 h0 p => ?_
    · simp only [wp, puts, List.set_cons_succ, List.set_cons_zero] at h0; subst h0
      have lu := hs.2 u hu
      refine ⟨nd0, N, u, 245, 58, rfl, by omega, latN, zN, by decide, by omega, hz u hu, by decide, fun hc => k1 hc _ rfl, fun hc => k2 hc _ rfl⟩
    simp only [wp, puts, List.set_cons_succ, List.set_cons_zero] at h0; subst h0
    refine ⟨nvs_mapT _ _ fun _ _ => rfl, ?_⟩
    rw [show (M.filter fun r => !hasB N r) = [] from filter_none.mpr fun r hr => by rw [hasB_of h4 sqN (SN.ps r hr)]; rfl]
    exact ⟨sz 0, fun p13 => ⟨rfl, shp_nilL, shp_nilL, fun hc => (by cases hc), fun _ => ⟨_, rfl⟩⟩⟩
  · obtain ⟨s3, rfl⟩ := hW
    have sN := hP.same.trans hs (same_neg h4 sqP)
    have sqN := sN.sq
    have sB : sameB M (P.map (timesR (-1))) = true := sameB_same h4 n0 hs hd (.refl hs) sN
    have rB : redB (P.map (timesR (-1))) = true := redB_of sqN.1 (fun i hi => (ShB_neg P i).mpr (hP.sh i hi)) fun k hk => by rw [standB_neg]; exact hP.lo k hk
    have zN : ∀ r ∈ P.map (timesR (-1)), SzL 63 r := fun r hr => by
      obtain ⟨s, h, rfl⟩ := List.mem_map.mp hr
      intro c
      rw [timesR_at]
      exact (zP s h c).mul (show Sz 1 (-1) by unfold Sz; decide)
    have lP := sqP.1
    refine ⟨nd0, P, -1, 62, 1, rfl, by omega, (fun r hr => by rw [sqP.2 r hr]; omega), zP, by unfold Sz; decide, by decide, by decide, nd0, M, P.map (timesR (-1)), 63, rfl, by omega, latB_of hs n0 hd, (fun r hr => (hz r hr).mono (by decide)), by rw [sqN.1]; omega, (fun r hr => by rw [sqN.2 r hr]; omega), fun _ => by rw [sqN.1]; exact h4, zN, by decide, ?_⟩
    rw [sB, rB]
    refine ⟨nofun, fun _ => ?_⟩
    have lm : ((M.map rowT).length : Int) = (n : Nat) := by rw [List.length_map, hl]
    have hb0 : P[0]? = some (P.getD 0 []) := getD_some (by omega)
    have mb0 := List.mem_of_getElem? hb0
    have lb0 := sqP.2 _ mb0
    have zb0 := zP _ mb0
    refine ⟨_, getI_at (k := 0) rfl (by rw [List.getElem?_map, hb0]; rfl), ?_⟩
    refine lc_gen ((P.getD 0 []).map fun x => .int (x * x)) (by simp) (by rw [List.length_map]; omega) (fun r0 h0 c u y hu hy R S' ku => ?_) fun r0 h0 p5 => ?_
    · simp only [wp, puts, List.set_cons_succ, List.set_cons_zero] at h0; subst h0
      obtain ⟨a, ha, rfl⟩ := get_fun hu
      obtain rfl := get_map2 hy ha
      have za := mem_sz zb0 ha
      exact ⟨fun _ => ⟨mulOk za za (by decide), ku _ rfl⟩, nofun⟩
    simp only [wp, puts, List.set_cons_succ, List.set_cons_zero] at h0; subst h0
    refine ⟨nvs_d _, ?_⟩
    rw [fz_outs, show ((P.getD 0 []).map fun x => PyData.int (x * x)) = ((P.getD 0 []).map fun x => x * x).map PyData.int by rw [List.map_map]; rfl]
    refine ⟨allI_map _, ?_⟩
    rw [intL_map]
    exact v_sr_end lm (sum_sq _) hs n0 h4 hd hz hP.same hP.sh hP.lo zP ⟨⟨⟩, q⟩
end L3
set_option pp.maxSteps 600
namespace L3
open PySem PySem.Spec PyProof.Rows L2
local macro_rules | `(tactic| wtm_at "sh") => `(tactic| conv => whnf)
theorem timesR_eq (t : Int) (r : List Int) : r.map (t * ·) = timesR t r := List.map_congr_left fun a _ => Int.mul_comm t a
theorem dbl_det {n k0 : Nat} {M : Mat} {U : List Int} (hs : Sq n n M) (hk0 : k0 < n) (hU : M[k0]? = some U) : detN n (M.set k0 (timesR 2 U)) = 2 * detN n M := by
  rw [← timesR_eq, det_scale 2 hs hk0 (hs.2 U (List.mem_of_getElem? hU)), set_same hU]
theorem dbl_same {n k0 : Nat} {M : Mat} {U : List Int} (hs : Sq n n M) (hd : detN n M ≠ 0) (hk0 : k0 < n) (hU : M[k0]? = some U) : sameB M (M.set k0 (timesR 2 U)) = false := by
  unfold sameB
  rw [List.length_set, hs.1, dbl_det hs hk0 hU, decide_eq_false (p := (detN n M).natAbs = (2 * detN n M).natAbs) (by omega), Bool.and_false, Bool.false_and]
theorem dbl_has {n k0 : Nat} {M : Mat} {U : List Int} (h4 : n ≤ 4) (hs : Sq n n M) (hU : M[k0]? = some U) : hasB M (timesR 2 U) = true := by
  have mU := List.mem_of_getElem? hU
  have lU := hs.2 U mU
  unfold hasB
  rw [hs.1, decide_eq_true (by rw [timesR_len, lU]), Bool.true_and]
  refine decide_eq_true fun i hi => ?_
  rw [← timesR_eq, det_scale 2 hs hi lU]
  exact Int.dvd_mul_of_dvd_right ((Span.of_mem hs mU).dvd h4 hs hi)
theorem dbl_not {n k0 : Nat} {M : Mat} {U : List Int} (hs : Sq n n M) (hd : detN n M ≠ 0) (hk0 : k0 < n) (hU : M[k0]? = some U) : hasB (M.set k0 (timesR 2 U)) U = false := by
  unfold hasB
  rw [List.length_set, hs.1, decide_eq_true (hs.2 U (List.mem_of_getElem? hU)), Bool.true_and]
  refine decide_eq_false fun h => ?_
  have h1 := h k0 hk0
  rw [List.set_set, set_same hU, dbl_det hs hk0 hU] at h1
  obtain ⟨c, hc⟩ := h1
  have h2 : detN n M * (1 - 2 * c) = 0 := by grind
  rcases Int.mul_eq_zero.mp h2 with e | e
  · exact hd e
  · omega
theorem rot_cut {r : List Int} {k : Nat} (h : k ≤ r.length) : cutL (r.map PyData.int) (some ((k : Nat) : Int)) none ++ cutL (r.map PyData.int) none (some ((k : Nat) : Int)) = (rotR k r).map PyData.int := by
  rw [cut_take (by rw [List.length_map]; omega), cut_drop (by rw [List.length_map]; omega), ← List.map_take, ← List.map_drop, ← List.map_append]; rfl
def N_law_19 : List Str := ["_law_script", "_law_rows_here", "_law_number_here", "_law_factor", "_law_at", "_law_doubled", "_law_turned", "_law_row"]
def body_law_19 : TS3 := (xSeq (xAsg (xCall sp_law_rows_2 xNoE (xArg (xView 0) (xArg (xC (.int 0)) (xArg (xC (.int 0)) xANil)))) (xGName 1))
  (xSeq (xIfS (xTest (x2 kEqI (xFz (xCall (sp_law_determinant 8) xNoE (xArg (xView 1) xANil))) (xC (.int 0)))) (xRet (xD (xC (.bool true)))) xNext)
  (xSeq (xIfS (xNot (xTest (xFz (xCall sp_law_seen_right xNoE (xArg (xView 1) xANil))))) (xRet (xD (xC (.bool false)))) xNext)
  (xSeq (xAsg (xCall sp_law_number_1 xNoE (xArg (xView 0) (xArg (xC (.int 190)) xANil))) (xGName 2))
  (xSeq (xAsg (xD (x2 kAdd (xC (.int 1)) (x2 kMod (xView 2) (xC (.int 9))))) (xGName 3))
  (xSeq (xIfS (xTest (x2 kNe (xFz (xCall sp_standing xNoE (xArg (xFz (xCall sp_law_by xNoE (xArg (xView 1) (xArg (xView 3) xANil)))) xANil))) (xFz (xCall sp_law_by xNoE (xArg (xFz (xCall sp_standing xNoE (xArg (xView 1) xANil))) (xArg (xView 3) xANil)))))) (xRet (xD (xC (.bool false)))) xNext)
  (xSeq (xIfS (xTest (x2 kNeI (xFz (xCall sp_measure xNoE (xArg (xFz (xCall sp_law_by xNoE (xArg (xView 1) (xArg (xView 3) xANil)))) xANil))) (x2 kMul (xFz (xCall sp_measure xNoE (xArg (xView 1) xANil))) (xFz (xCall sp_law_power xNoE (xArg (xView 3) (xArg (x1 cLen (xView 1)) xANil))))))) (xRet (xD (xC (.bool false)))) xNext)
  (xSeq (xAsg (xD (x2 kMod (x2 kDiv (xView 2) (xC (.int 1000))) (x1 cLen (xView 1)))) (xGName 4))
  (xSeq (xAsg (x2 cAdd (xFz (x2 cAdd (xFz (xSl (xView 1) xNo (xSome (xView 4)))) (xFz (xCall sp_law_by xNoE (xArg (xFz (xTup (xCons (xD (x2 cIx (xView 1) (xView 4))) xNil))) (xArg (xC (.int 2)) xANil)))))) (xFz (xSl (xView 1) (xSome (x2 kAdd (xView 4) (xC (.int 1)))) xNo))) (xGName 5))
  (xSeq (xIfS (xOr (xTest (xFz (xCall sp_same_lattice xNoE (xArg (xView 1) (xArg (xView 5) xANil))))) (xOr (xNot (xTest (xFz (xCall sp_has_row xNoE (xArg (xView 1) (xArg (x2 cIx (xView 5) (xView 4)) xANil)))))) (xTest (xFz (xCall sp_has_row xNoE (xArg (xView 5) (xArg (x2 cIx (xView 1) (xView 4)) xANil))))))) (xRet (xD (xC (.bool false)))) xNext)
  (xSeq (xAsg (xD (x1 cTup (xFz (xLc (xSeqI (xView 1)) (xGName 7) xYes (x2 cAdd (xFz (xSl (xView 7) (xSome (xView 4)) xNo)) (xFz (xSl (xView 7) xNo (xSome (xView 4))))) [7])))) (xGName 6))
  (xRet (xD (xAndV (x2 kEq (xFz (xCall sp_measure xNoE (xArg (xView 6) xANil))) (xFz (xCall sp_measure xNoE (xArg (xView 1) xANil)))) (x2 kEqI (xFz (xCall sp_measure xNoE (xArg (xView 5) xANil))) (x2 kMul (xC (.int 2)) (xFz (xCall sp_measure xNoE (xArg (xView 1) xANil)))))))))))))))))))
def rest19 : TS3 := (xSeq (xAsg (x2 cAdd (xFz (x2 cAdd (xFz (xSl (xView 1) xNo (xSome (xView 4)))) (xFz (xCall sp_law_by xNoE (xArg (xFz (xTup (xCons (xD (x2 cIx (xView 1) (xView 4))) xNil))) (xArg (xC (.int 2)) xANil)))))) (xFz (xSl (xView 1) (xSome (x2 kAdd (xView 4) (xC (.int 1)))) xNo))) (xGName 5))
  (xSeq (xIfS (xOr (xTest (xFz (xCall sp_same_lattice xNoE (xArg (xView 1) (xArg (xView 5) xANil))))) (xOr (xNot (xTest (xFz (xCall sp_has_row xNoE (xArg (xView 1) (xArg (x2 cIx (xView 5) (xView 4)) xANil)))))) (xTest (xFz (xCall sp_has_row xNoE (xArg (xView 5) (xArg (x2 cIx (xView 1) (xView 4)) xANil))))))) (xRet (xD (xC (.bool false)))) xNext)
  (xSeq (xAsg (xD (x1 cTup (xFz (xLc (xSeqI (xView 1)) (xGName 7) xYes (x2 cAdd (xFz (xSl (xView 7) (xSome (xView 4)) xNo)) (xFz (xSl (xView 7) xNo (xSome (xView 4))))) [7])))) (xGName 6))
  (xRet (xD (xAndV (x2 kEq (xFz (xCall sp_measure xNoE (xArg (xView 6) xANil))) (xFz (xCall sp_measure xNoE (xArg (xView 1) xANil)))) (x2 kEqI (xFz (xCall sp_measure xNoE (xArg (xView 5) xANil))) (x2 kMul (xC (.int 2)) (xFz (xCall sp_measure xNoE (xArg (xView 1) xANil)))))))))))
theorem v_19_rest {D : Ends3} {s0 s2 s3 s5 s6 : Option T} {x4 : Int} {n k0 : Nat} {M : Mat} (e4 : x4 = (k0 : Nat)) (hs : Sq n n M) (n0 : 0 < n) (h4 : n ≤ 4) (hd : detN n M ≠ 0) (hz : ∀ r ∈ M, SzL 58 r) (hk0 : k0 < n)
    (k : ∀ s5 s6, D.rt (.d (.bool true)) [s0, some (.d (matP M)), s2, s3, some (.d (.int (k0 : Nat))), s5, s6, none]) : rest19 D [s0, some (.d (matP M)), s2, s3, some (.d (.int x4)), s5, s6, none] := by
  subst e4
  have hb2 : 1000 < sizeLine := by decide
  have hM := hs.1
  obtain ⟨U, hU⟩ : ∃ U, M[k0]? = some U := ⟨_, List.getElem?_eq_getElem (by omega)⟩
  have mU := List.mem_of_getElem? hU
  have lU := hs.2 U mU
  have gU : getI (M.map rowT) ((k0 : Nat) : Int) = some (rowT U) := getI_at (k := k0) rfl (by rw [List.getElem?_map, hU]; rfl)
  have lcut : ∀ (l : List PyData) lo hi, (cutL l lo hi).length ≤ l.length := fun l lo hi => by
    unfold cutL
    rw [List.length_take, List.length_drop]; omega
  have b1 := lcut (M.map rowT) none (some ((k0 : Nat) : Int))
  have b2 := lcut (M.map rowT) (some (((k0 : Nat) : Int) + 1)) none
  rw [List.length_map] at b1 b2
  have sqD : Sq n n (M.set k0 (timesR 2 U)) := hs.set (by rw [timesR_len, lU])
  have zU2 : SzL 60 (timesR 2 U) := fun c => by
    rw [timesR_at]
    exact (hz U mU c).mul (show Sz 2 2 by unfold Sz; decide)
  have zD : ∀ r ∈ M.set k0 (timesR 2 U), SzL 60 r := set_sz (fun r hr => (hz r hr).mono (by decide)) zU2
  have dD := dbl_det hs hk0 hU
  have dD0 : detN n (M.set k0 (timesR 2 U)) ≠ 0 := by omega
  refine ⟨rowT U, gU, sz 1, nd0, [U], 2, 58, 2, rfl, (by show 1 ≤ 1000; decide), (fun r hr => by obtain rfl := List.mem_singleton.mp hr; omega), (fun r hr => by obtain rfl := List.mem_singleton.mp hr; exact hz r mU), by unfold Sz; decide, by decide, by decide, ?_⟩
  refine ⟨by show _ + 1 ≤ _; omega, ?_⟩
  refine ⟨by rw [List.length_append]; show _ + 1 + _ ≤ _; omega, ?_⟩
  have eD : cutL (M.map rowT) none (some ((k0 : Nat) : Int)) ++ [rowT (timesR 2 U)] ++ cutL (M.map rowT) (some (((k0 : Nat) : Int) + 1)) none = (M.set k0 (timesR 2 U)).map rowT := by
    rw [cut_take (by rw [List.length_map]; omega), show ((k0 : Nat) : Int) + 1 = ((k0 + 1 : Nat) : Int) by omega, cut_drop (by rw [List.length_map]; omega), ← List.map_take, ← List.map_drop, List.set_eq_take_append_cons_drop, if_pos (by omega), List.map_append, List.map_cons, List.append_assoc]; rfl
  rw [show List.map rowT (List.map (timesR 2) [U]) = [rowT (timesR 2 U)] from rfl, eD]
  have lD := sqD.1
  have latM := latB_of hs n0 hd
  have latD := latB_of sqD n0 dD0
  have gD : getI ((M.set k0 (timesR 2 U)).map rowT) ((k0 : Nat) : Int) = some (rowT (timesR 2 U)) := getI_at (k := k0) rfl (by rw [List.getElem?_map, List.getElem?_set_self (by omega)]; rfl)
  refine ⟨nd0, M, M.set k0 (timesR 2 U), 60, rfl, by omega, latM, (fun r hr => (hz r hr).mono (by decide)), by omega, (fun r hr => by rw [sqD.2 r hr]; omega), (fun _ => by omega), zD, by decide, ?_⟩
  rw [dbl_same hs hd hk0 hU]
  refine ⟨nofun, fun _ => ?_⟩
  refine ⟨rowT (timesR 2 U), gD, nd0, M, timesR 2 U, 58, 60, rfl, by omega, latM, hz, by decide, by rw [timesR_len]; omega, zU2, by decide, ?_⟩
  rw [dbl_has h4 hs hU]
  refine ⟨nofun, fun _ => ?_⟩
  refine ⟨rowT U, gU, nd0, M.set k0 (timesR 2 U), U, 60, 58, rfl, by omega, latD, zD, by decide, by omega, hz U mU, by decide, ?_⟩
  rw [dbl_not hs hd hk0 hU]
  refine ⟨nofun, fun _ => ?_⟩
  refine lc_gen (M.map fun r => rowT (rotR k0 r)) (by simp) (by rw [List.length_map]; omega) (fun r0 h0 i u y hu hy R S ku => ?_) fun r0 h0 p6 => ?_
  · simp only [wp, puts, List.set_cons_succ, List.set_cons_zero] at h0; subst h0
    obtain ⟨v, hv, rfl⟩ := get_fun hu
    obtain rfl := get_map2 hy hv
    have lv := hs.2 v (List.mem_of_getElem? hv)
    have c1 := lcut (v.map PyData.int) none (some ((k0 : Nat) : Int))
    have c2 := lcut (v.map PyData.int) (some ((k0 : Nat) : Int)) none
    rw [List.length_map] at c1 c2
    refine ⟨fun _ => ⟨by omega, ?_⟩, nofun⟩
    rw [rot_cut (by omega)]
    exact ku _ rfl
  simp only [wp, puts, List.set_cons_succ, List.set_cons_zero] at h0; subst h0
  refine ⟨nvs_d _, ?_⟩
  rw [fz_outs]
  have sqT : Sq n n (M.map (rotR k0)) := hs.mapR fun r => rot_len
  have dT := rot_det h4 hs k0 (by omega)
  have lT := sqT.1
  have zT : ∀ r ∈ M.map (rotR k0), SzL 58 r := fun r hr => by
    obtain ⟨s, h, rfl⟩ := List.mem_map.mp hr
    refine SzL.of fun x hx => ?_
    have := List.mem_append.mp hx
    rcases this with e | e
    · exact (hz s h).mem (List.mem_of_mem_drop e)
    · exact (hz s h).mem (List.mem_of_mem_take e)
  rw [show (M.map fun r => rowT (rotR k0 r)) = (M.map (rotR k0)).map rowT by rw [List.map_map]; rfl]
  refine ⟨nd0, M.map (rotR k0), 58, rfl, by omega, latB_of sqT n0 (by omega), zT, by decide, nd0, M, 58, rfl, by omega, latM, hz, by decide, ?_⟩
  have zM : Sz 300 ((detN M.length M).natAbs : Int) := by
    rw [hM]
    have h := (det_Sz h4 hs hz).mono (m := 300) (by have : n * (58 + 2) ≤ 4 * 60 := Nat.mul_le_mul_right _ h4; omega)
    unfold Sz at h ⊢
    rw [Int.natAbs_natCast]; exact h
  have eT : (detN (M.map (rotR k0)).length (M.map (rotR k0))).natAbs = (detN M.length M).natAbs := by rw [lT, hM]; exact dT
  have eD2 : ((detN (M.set k0 (timesR 2 U)).length (M.set k0 (timesR 2 U))).natAbs : Int) = 2 * ((detN M.length M).natAbs : Int) := by rw [lD, hM, dD]; omega
  rw [eT]
  refine ⟨rfl, rfl, fun _ => ?_, fun hc => ?_⟩
  · refine ⟨nd0, M.set k0 (timesR 2 U), 60, rfl, by omega, latD, zD, by decide, nd0, M, 58, rfl, by omega, latM, hz, by decide, mulOk (show Sz 3 2 by unfold Sz; decide) zM (by decide), ?_⟩
    have e : PyData.bool (decide (((detN (M.set k0 (timesR 2 U)).length (M.set k0 (timesR 2 U))).natAbs : Int) = 2 * ((detN M.length M).natAbs : Int))) = .bool true := congrArg PyData.bool (decide_eq_true eD2)
    show D.rt (.d (.bool (decide (((detN (M.set k0 (timesR 2 U)).length (M.set k0 (timesR 2 U))).natAbs : Int) = 2 * ((detN M.length M).natAbs : Int))))) _
    rw [e]
    exact k _ _
  · have hc : decide (((detN M.length M).natAbs : Int) = ((detN M.length M).natAbs : Int)) = false := hc
    rw [decide_eq_true rfl] at hc
    cases hc
def mid19 : TS3 := (xSeq (xIfS (xTest (x2 kNe (xFz (xCall sp_standing xNoE (xArg (xFz (xCall sp_law_by xNoE (xArg (xView 1) (xArg (xView 3) xANil)))) xANil))) (xFz (xCall sp_law_by xNoE (xArg (xFz (xCall sp_standing xNoE (xArg (xView 1) xANil))) (xArg (xView 3) xANil)))))) (xRet (xD (xC (.bool false)))) xNext)
  (xSeq (xIfS (xTest (x2 kNeI (xFz (xCall sp_measure xNoE (xArg (xFz (xCall sp_law_by xNoE (xArg (xView 1) (xArg (xView 3) xANil)))) xANil))) (x2 kMul (xFz (xCall sp_measure xNoE (xArg (xView 1) xANil))) (xFz (xCall sp_law_power xNoE (xArg (xView 3) (xArg (x1 cLen (xView 1)) xANil))))))) (xRet (xD (xC (.bool false)))) xNext)
  (xSeq (xAsg (xD (x2 kMod (x2 kDiv (xView 2) (xC (.int 1000))) (x1 cLen (xView 1)))) (xGName 4)) rest19)))
theorem pow_sz {b : Nat} {x : Int} (zx : Sz b x) (i : Nat) : Sz (b * i + 1) (x ^ i) := by
  unfold Sz at zx ⊢
  rw [Int.natAbs_pow]
  have h1 : x.natAbs ^ i ≤ (2 ^ b) ^ i := Nat.pow_le_pow_left (by omega) i
  rw [← Nat.pow_mul] at h1
  have h2 : (2 : Nat) ^ (b * i) < 2 ^ (b * i + 1) := Nat.pow_lt_pow_right (by decide) (by omega)
  omega
theorem v_19_mid {D : Ends3} {s0 s4 s5 s6 : Option T} {w f : Int} {n : Nat} {M : Mat} (f1 : 1 ≤ f) (f9 : f ≤ 9) (w0 : 0 ≤ w) (w1 : w < 1000000) (hs : Sq n n M) (n0 : 0 < n) (h4 : n ≤ 4) (hd : detN n M ≠ 0) (hz : ∀ r ∈ M, SzL 58 r)
    (k : ∀ s4 s5 s6, D.rt (.d (.bool true)) [s0, some (.d (matP M)), some (.d (.int w)), some (.d (.int f)), s4, s5, s6, none]) : mid19 D [s0, some (.d (matP M)), some (.d (.int w)), some (.d (.int f)), s4, s5, s6, none] := by
  have hb2 : 1000 < sizeLine := by decide
  have hM := hs.1
  have latM := latB_of hs n0 hd
  have zf : Sz 4 f := by unfold Sz; omega
  have sqf : Sq n n (M.map (timesR f)) := hs.mapR fun r => timesR_len
  have lf := sqf.1
  have df : detN n (M.map (timesR f)) = detN n M * f ^ n := det_times n M hs
  have fp : 0 < f ^ n := Int.pow_pos (by omega)
  have df0 : detN n (M.map (timesR f)) ≠ 0 := by rw [df]; exact Int.mul_ne_zero hd (by omega)
  have latF := latB_of sqf n0 df0
  have zF : ∀ r ∈ M.map (timesR f), SzL 62 r := fun r hr => by
    obtain ⟨s, h, rfl⟩ := List.mem_map.mp hr
    intro c
    rw [timesR_at]
    exact (hz s h c).mul zf
  refine ⟨nd0, M, f, 58, 4, rfl, by omega, (fun r hr => by rw [hs.2 r hr]; omega), hz, zf, by decide, by decide, nd0, M.map (timesR f), 62, rfl, by omega, latF, zF, by decide, fun S1 hS1 => ?_⟩
  refine ⟨nd0, M, 58, rfl, by omega, latM, hz, by decide, fun S hS => ?_⟩
  rw [hM] at hS
  rw [lf] at hS1
  have zS := hS.sz h4 hs hz
  have lS := hS.st.sq.1
  have hS2 := stand_times (t := f) (by omega) hs hS
  have eS : S1 = S.map (timesR f) := stand_same h4 sqf df0 (.refl sqf) hS2 hS1
  subst eS
  have shS : SeqAt.shaped (matP (S.map (timesR f))) = true := shp_matP (by rw [hS2.st.sq.1]; omega) fun r hr => by rw [hS2.st.sq.2 r hr]; omega
  refine ⟨nd0, S, f, _, 4, rfl, by omega, (fun r hr => by rw [hS.st.sq.2 r hr]; omega), zS, zf, ?_, by decide, shS, shS, fun hc => ?_, fun _ => ?_⟩
  · omega
  · have hc : (!PyData.eqv (matP (S.map (timesR f))) (matP (S.map (timesR f)))) = true := hc
    rw [matP_eqv] at hc; cases hc
  refine ⟨nd0, M, f, 58, 4, rfl, by omega, (fun r hr => by rw [hs.2 r hr]; omega), hz, zf, by decide, by decide, nd0, M.map (timesR f), 62, rfl, by omega, latF, zF, by decide, nd0, M, 58, rfl, by omega, latM, hz, by decide, ?_⟩
  have lm : ((M.map rowT).length : Int) = (n : Nat) := by rw [List.length_map, hM]
  have zM : Sz 300 ((detN M.length M).natAbs : Int) := by
    rw [hM]
    have h := (det_Sz h4 hs hz).mono (m := 300) (by have : n * (58 + 2) ≤ 4 * 60 := Nat.mul_le_mul_right _ h4; omega)
    unfold Sz at h ⊢
    rw [Int.natAbs_natCast]; exact h
  have zp : Sz 50 (f ^ ((n : Nat) : Int).toNat) := by
    rw [Int.toNat_natCast]
    have h := (pow_sz zf n).mono (m := 50) (by omega)
    exact h
  refine ⟨nd0, f, _, 4, rfl, ?_, ?_, zf, by decide, mulOk zM (m := 50) ?_ (by decide), fun hc => ?_, fun _ => ?_⟩
  · show (0 : Int) ≤ ((M.map rowT).length : Int); omega
  · show ((M.map rowT).length : Int) ≤ 10; omega
  · rw [lm]
    exact zp
  · have hc : (!decide (((detN (M.map (timesR f)).length (M.map (timesR f))).natAbs : Int) = ((detN M.length M).natAbs : Int) * f ^ ((M.map rowT).length : Int).toNat)) = true := hc
    rw [decide_eq_true (by rw [lf, hM, df, lm, Int.natAbs_mul, Int.toNat_natCast, Int.natCast_mul]; congr 1; omega)] at hc
    cases hc
  have gm : 0 ≤ w / 1000 % ((M.map rowT).length : Int) ∧ w / 1000 % ((M.map rowT).length : Int) < n := by
    rw [lm]
    exact ⟨Int.emod_nonneg _ (by omega), Int.emod_lt_of_pos _ (by omega)⟩
  refine ⟨divOk (n := 10) (by omega) (by unfold Sz; decide) (by decide), by show 0 < ((M.map rowT).length : Int); omega, ?_⟩
  obtain ⟨k0, ek, hk0⟩ : ∃ k0 : Nat, w / 1000 % ((M.map rowT).length : Int) = (k0 : Nat) ∧ k0 < n := ⟨(w / 1000 % ((M.map rowT).length : Int)).toNat, by omega, by omega⟩
  exact v_19_rest ek hs n0 h4 hd hz hk0 fun s5 s6 => k _ s5 s6
theorem v_law_19 (ts Q E) (h : spLaw ts Q E) : body_law_19 { nx := fun r => finOk ts r ∧ Q (.d .none) (finF ts r), rt := fun x r => finOk ts r ∧ Q x (finF ts r) } (start3 N_law_19 ts) := by
  obtain ⟨a, ns, rfl, hl, q⟩ := h
  refine ⟨nd0, a, ns, 0, 0, rfl, hl, by decide, by decide, rfl, fun M n hs n0 h4 hz => ?_⟩
  refine ⟨nd0, M, n, 58, rfl, hs, by omega, h4, hz, by decide, fun _ => ⟨⟨⟩, q _⟩, fun hc => ?_⟩
  have hd : detN n M ≠ 0 := of_decide_eq_false hc
  refine ⟨nd0, M, n, rfl, hs, n0, h4, hd, hz, nofun, fun _ => ?_⟩
  refine ⟨nd0, a, ns, 190, rfl, hl, by decide, by decide, fun w w0 w1 => ?_⟩
  refine ⟨by show (0 : Int) < 9; decide, ?_⟩
  exact v_19_mid (by omega) (by omega) w0 w1 hs n0 h4 hd hz fun _ _ _ => ⟨⟨⟩, q _⟩
end L3
namespace K_k19
open PySem PySem.Spec PyProof.Rows L2 L3
def topS (i : Nat) : Stmt := PySem.Challenge.pw_underone_k19_whole_lattices_seen_otherwi.main.body.getD i (.Pass ⟨0, 0, 0, 0⟩)
abbrev s_law_by : Stmt := topS 27
theorem sc_law_by : FnScope N_law_by ["_law_rows_here", "_law_factor"] (defScope s_law_by) := ⟨rfl, rfl, rfl, by decide +kernel, rfl, by decide +kernel, by decide +kernel⟩
abbrev s_law_determinant : Stmt := topS 25
theorem sc_law_determinant : FnScope N_law_determinant ["_law_rows_here"] (defScope s_law_determinant) := ⟨rfl, rfl, rfl, by decide +kernel, rfl, by decide +kernel, by decide +kernel⟩
abbrev s_law_number_1 : Stmt := topS 22
theorem sc_law_number_1 : FnScope N_law_number_1 ["_law_script", "_law_k"] (defScope s_law_number_1) := ⟨rfl, rfl, rfl, by decide +kernel, rfl, by decide +kernel, by decide +kernel⟩
abbrev s_law_power : Stmt := topS 26
theorem sc_law_power : FnScope N_law_power ["_law_one", "_law_many"] (defScope s_law_power) := ⟨rfl, rfl, rfl, by decide +kernel, rfl, by decide +kernel, by decide +kernel⟩
abbrev s_law_great_1 : Stmt := topS 23
theorem sc_law_great_1 : FnScope N_law_great_1 ["_law_script", "_law_k", "_law_groups"] (defScope s_law_great_1) := ⟨rfl, rfl, rfl, by decide +kernel, rfl, by decide +kernel, by decide +kernel⟩
abbrev s_law_rows_2 : Stmt := topS 24
theorem sc_law_rows_2 : FnScope N_law_rows_2 ["_law_script", "_law_start", "_law_wide"] (defScope s_law_rows_2) := ⟨rfl, rfl, rfl, by decide +kernel, rfl, by decide +kernel, by decide +kernel⟩
abbrev s_is_square : Stmt := topS 6
theorem sc_is_square : FnScope N_is_square ["rows"] (defScope s_is_square) := ⟨rfl, rfl, rfl, by decide +kernel, rfl, by decide +kernel, by decide +kernel⟩
abbrev s_taken_off : Stmt := topS 5
theorem sc_taken_off : FnScope N_taken_off ["row", "many", "other"] (defScope s_taken_off) := ⟨rfl, rfl, rfl, by decide +kernel, rfl, by decide +kernel, by decide +kernel⟩
abbrev s_stepped : Stmt := topS 7
theorem sc_stepped : FnScope N_stepped ["rows"] (defScope s_stepped) := ⟨rfl, rfl, rfl, by decide +kernel, rfl, by decide +kernel, by decide +kernel⟩
abbrev s_measure_of : Stmt := topS 8
theorem sc_measure_of : FnScope N_measure_of ["rows"] (defScope s_measure_of) := ⟨rfl, rfl, rfl, by decide +kernel, rfl, by decide +kernel, by decide +kernel⟩
abbrev s_is_lattice : Stmt := topS 9
theorem sc_is_lattice : FnScope N_is_lattice ["rows"] (defScope s_is_lattice) := ⟨rfl, rfl, rfl, by decide +kernel, rfl, by decide +kernel, by decide +kernel⟩
abbrev s_need_lattice : Stmt := topS 10
theorem sc_need_lattice : FnScope N_need_lattice ["rows"] (defScope s_need_lattice) := ⟨rfl, rfl, rfl, by decide +kernel, rfl, by decide +kernel, by decide +kernel⟩
abbrev s_standing : Stmt := topS 12
theorem sc_standing : FnScope N_standing ["rows"] (defScope s_standing) := ⟨rfl, rfl, rfl, by decide +kernel, rfl, by decide +kernel, by decide +kernel⟩
abbrev s_has_row : Stmt := topS 14
theorem sc_has_row : FnScope N_has_row ["rows", "row"] (defScope s_has_row) := ⟨rfl, rfl, rfl, by decide +kernel, rfl, by decide +kernel, by decide +kernel⟩
abbrev s_measure : Stmt := topS 11
theorem sc_measure : FnScope N_measure ["rows"] (defScope s_measure) := ⟨rfl, rfl, rfl, by decide +kernel, rfl, by decide +kernel, by decide +kernel⟩
abbrev s_product_of : Stmt := topS 4
theorem sc_product_of : FnScope N_product_of ["one", "other"] (defScope s_product_of) := ⟨rfl, rfl, rfl, by decide +kernel, rfl, by decide +kernel, by decide +kernel⟩
abbrev s_shares_of : Stmt := topS 15
theorem sc_shares_of : FnScope N_shares_of ["rows"] (defScope s_shares_of) := ⟨rfl, rfl, rfl, by decide +kernel, rfl, by decide +kernel, by decide +kernel⟩
abbrev s_cut_down : Stmt := topS 16
theorem sc_cut_down : FnScope N_cut_down ["rows", "at"] (defScope s_cut_down) := ⟨rfl, rfl, rfl, by decide +kernel, rfl, by decide +kernel, by decide +kernel⟩
abbrev s_stands_behind : Stmt := topS 17
theorem sc_stands_behind : FnScope N_stands_behind ["rows", "at"] (defScope s_stands_behind) := ⟨rfl, rfl, rfl, by decide +kernel, rfl, by decide +kernel, by decide +kernel⟩
abbrev s_reduced : Stmt := topS 18
theorem sc_reduced : FnScope N_reduced ["rows"] (defScope s_reduced) := ⟨rfl, rfl, rfl, by decide +kernel, rfl, by decide +kernel, by decide +kernel⟩
abbrev s_has_small_shares : Stmt := topS 19
theorem sc_has_small_shares : FnScope N_has_small_shares ["rows"] (defScope s_has_small_shares) := ⟨rfl, rfl, rfl, by decide +kernel, rfl, by decide +kernel, by decide +kernel⟩
abbrev s_same_lattice : Stmt := topS 13
theorem sc_same_lattice : FnScope N_same_lattice ["one", "other"] (defScope s_same_lattice) := ⟨rfl, rfl, rfl, by decide +kernel, rfl, by decide +kernel, by decide +kernel⟩
abbrev s_reduced_shown : Stmt := topS 20
theorem sc_reduced_shown : FnScope N_reduced_shown ["rows", "told"] (defScope s_reduced_shown) := ⟨rfl, rfl, rfl, by decide +kernel, rfl, by decide +kernel, by decide +kernel⟩
abbrev s_law_seen_right : Stmt := topS 28
theorem sc_law_seen_right : FnScope N_law_seen_right ["_law_rows_here"] (defScope s_law_seen_right) := ⟨rfl, rfl, rfl, by decide +kernel, rfl, by decide +kernel, by decide +kernel⟩
abbrev s_law_19 : Stmt := topS 29
theorem sc_law_19 : FnScope N_law_19 ["_law_script"] (defScope s_law_19) := ⟨rfl, rfl, rfl, by decide +kernel, rfl, by decide +kernel, by decide +kernel⟩
section
variable {P : Program} {w : World} {K : PySem.W.Frag} {mg : Str → Option Value} {base : Heap}
theorem ok_law_by {f : Addr} {fd : FuncData} {k : Nat} (F : Fun K "_law_by" "_law_by" s_law_by f fd) (B_tuple : mg "tuple" = none) : FnOk P w K mg base CX0 (k + 1) f fd ["_law_rows_here", "_law_factor"] (lift K sp_law_by) :=
  ok3 F sc_law_by (fun ts Q E h => by first | (obtain ⟨rfl, _⟩ := h; rfl) | (obtain ⟨_, rfl, _⟩ := h; rfl) | (obtain ⟨_, _, rfl, _⟩ := h; rfl) | (obtain ⟨_, _, _, rfl, _⟩ := h; rfl) | (obtain ⟨_, _, _, _, rfl, _⟩ := h; rfl) | (obtain ⟨_, _, _, _, _, rfl, _⟩ := h; rfl) | (obtain ⟨_, _, _, _, _, _, rfl, _⟩ := h; rfl) | (obtain ⟨_, _, _, _, _, _, _, rfl, _⟩ := h; rfl) | (obtain ⟨_, _, _, _, _, _, _, _, rfl, _⟩ := h; rfl) | (obtain ⟨_, _, _, _, _, _, _, _, _, rfl, _⟩ := h; rfl) | (obtain ⟨_, _, _, _, _, _, _, _, _, _, rfl, _⟩ := h; rfl) | (obtain ⟨_, _, _, _, _, _, _, _, _, _, _, rfl, _⟩ := h; rfl) | (obtain ⟨_, _, _, _, _, _, _, _, _, _, _, _, rfl, _⟩ := h; rfl) | (obtain ⟨_, _, _, _, _, _, _, _, _, _, _, _, _, rfl, _⟩ := h; rfl) | (obtain ⟨_, _, _, _, _, _, _, _, _, _, _, _, _, _, rfl, _⟩ := h; rfl) | (obtain ⟨_, _, _, _, _, _, _, _, _, _, _, _, _, _, _, rfl, _⟩ := h; rfl)) (fun cdv A outer s H E hr => ⟨body_law_by, (b3_one (m3_ret (p3 (r3_tuple (by rfl) B_tuple (r3 (p3_lc (own := [("_law_row", 2)]) (js := [2]) rfl sc_law_by.nd (i3_seq (r3_name 0)) (blkOk_by (N := N_law_by) (sc := defScope s_law_by) (by decide +kernel)) (by decide) (fun _ _ _ _ _ => (g3_name 2 sc_law_by.nd)) (fun _ _ _ _ _ => ts3_nil) (fun _ _ _ _ _ => (p3 (r3_tuple (by rfl) B_tuple (r3 (p3_lc (own := [("_law_number_here", 3)]) (js := [3]) rfl sc_law_by.nd (i3_seq (r3_name 2)) (blkOk_by (N := N_law_by) (sc := _) (by first | exact (Eq.refl true) | with_unfolding_all rfl)) (by decide) (fun _ _ _ _ _ => (g3_name 3 sc_law_by.nd)) (fun _ _ _ _ _ => ts3_nil) (fun _ _ _ _ _ => (p3 (r3_mul (r3_name 1) (r3_name 3))))))))))))))), v_law_by⟩)
theorem ok_law_determinant {f : Addr} {fd : FuncData} {k : Nat} (n : Nat) (F : Fun K "_law_determinant" "_law_determinant" s_law_determinant f fd) (B_enumerate : mg "enumerate" = none) (B_tuple : mg "tuple" = none) (C_law_determinant : Cal P w K mg base "_law_determinant" k ["_law_rows_here"] (sp_law_determinant n)) : FnOk P w K mg base CX0 (k + 1) f fd ["_law_rows_here"] (lift K (sp_law_determinant (n + 1))) :=
  ok3 F sc_law_determinant (fun ts Q E h => by first | (obtain ⟨rfl, _⟩ := h; rfl) | (obtain ⟨_, rfl, _⟩ := h; rfl) | (obtain ⟨_, _, rfl, _⟩ := h; rfl) | (obtain ⟨_, _, _, rfl, _⟩ := h; rfl) | (obtain ⟨_, _, _, _, rfl, _⟩ := h; rfl) | (obtain ⟨_, _, _, _, _, rfl, _⟩ := h; rfl) | (obtain ⟨_, _, _, _, _, _, rfl, _⟩ := h; rfl) | (obtain ⟨_, _, _, _, _, _, _, rfl, _⟩ := h; rfl) | (obtain ⟨_, _, _, _, _, _, _, _, rfl, _⟩ := h; rfl) | (obtain ⟨_, _, _, _, _, _, _, _, _, rfl, _⟩ := h; rfl) | (obtain ⟨_, _, _, _, _, _, _, _, _, _, rfl, _⟩ := h; rfl) | (obtain ⟨_, _, _, _, _, _, _, _, _, _, _, rfl, _⟩ := h; rfl) | (obtain ⟨_, _, _, _, _, _, _, _, _, _, _, _, rfl, _⟩ := h; rfl) | (obtain ⟨_, _, _, _, _, _, _, _, _, _, _, _, _, rfl, _⟩ := h; rfl) | (obtain ⟨_, _, _, _, _, _, _, _, _, _, _, _, _, _, rfl, _⟩ := h; rfl) | (obtain ⟨_, _, _, _, _, _, _, _, _, _, _, _, _, _, _, rfl, _⟩ := h; rfl)) (fun cdv A outer s H E hr => ⟨body_law_determinant (sp_law_determinant n), (b3_cons (m3_if (t3_eq hr.units (r3_name 0) (r3 (p3_tup pa3_nil))) (b3_one (m3_ret (p3 r3_int))) b3_nil)
      (b3_cons (m3_set 1 (p3 r3_int) sc_law_determinant.nd)
      (b3_cons (m3_for PassesOwn.never rfl (i3_enumX (by rfl) B_enumerate (r3_ix (r3_name 0) r3_int)) (g3_tup (n := 2) rfl (gs3_cons (g3_name 2 sc_law_determinant.nd) (gs3_cons (g3_name 3 sc_law_determinant.nd) gs3_nil))) (b3_one (m3_if (t3_neI (r3_name 3) r3_int) (b3_cons (m3_set 4 (p3 (r3_tuple (by rfl) B_tuple (r3 (p3_lc (own := [("_law_row", 5)]) (js := [5]) rfl sc_law_determinant.nd (i3_seq (r3 (p3_sl (r3_name 0) (po3_some r3_int) po3_none))) (blkOk_by (N := N_law_determinant) (sc := defScope s_law_determinant) (by decide +kernel)) (by decide) (fun _ _ _ _ _ => (g3_name 5 sc_law_determinant.nd)) (fun _ _ _ _ _ => ts3_nil) (fun _ _ _ _ _ => (p3_add (r3 (p3_sl (r3_name 5) po3_none (po3_some (r3_name 2)))) (r3 (p3_sl (r3_name 5) (po3_some (r3_add (r3_name 2) r3_int)) po3_none)))))))) sc_law_determinant.nd)
      (b3_one (m3_set 1 (p3 (r3_add (r3_name 1) (r3_mul (r3_mul (r3_name 3) (r3_ix (r3 (p3_lst (pa3_cons (p3 r3_int) (pa3_cons (p3 (r3_neg r3_int)) pa3_nil)))) (r3_mod (r3_name 2) r3_int))) (r3 (p3_cal C_law_determinant hr (by rfl) (c3_val (r3_name 4) c3_nil)))))) sc_law_determinant.nd))) b3_nil)))
      (b3_one (m3_ret (p3_move 1)))))), v_law_determinant n⟩)
theorem okn_law_determinant {f : Addr} {fd : FuncData} {k : Nat} (F : Fun K "_law_determinant" "_law_determinant" s_law_determinant f fd) (hm : mg "_law_determinant" = some (.ref f)) (hk : PySem.W.keepIn K (.ref f) = true) (hb : Binds K fd ["_law_rows_here"] []) (B_enumerate : mg "enumerate" = none) (B_tuple : mg "tuple" = none) (z0 : ∀ ts Q E, sp_law_determinant 0 ts Q E → False) : ∀ n, FnOk P w K mg base CX0 (k + n + 1) f fd ["_law_rows_here"] (lift K (sp_law_determinant n))
  | 0 => ok0 F sc_law_determinant z0
  | n + 1 => ok_law_determinant n F B_enumerate B_tuple ⟨f, fd, okn_law_determinant F hm hk hb B_enumerate B_tuple z0 n, hm, hk, hb⟩
theorem ok_law_number_1 {f : Addr} {fd : FuncData} {k : Nat} (F : Fun K "_law_number" "_law_number" s_law_number_1 f fd) (B_len : mg "len" = none) (B_list : mg "list" = none) (B_max : mg "max" = none) (B_min : mg "min" = none) (B_range : mg "range" = none) : FnOk P w K mg base CX0 (k + 1) f fd ["_law_script", "_law_k"] (lift K sp_law_number_1) :=
  ok3 F sc_law_number_1 (fun ts Q E h => by first | (obtain ⟨rfl, _⟩ := h; rfl) | (obtain ⟨_, rfl, _⟩ := h; rfl) | (obtain ⟨_, _, rfl, _⟩ := h; rfl) | (obtain ⟨_, _, _, rfl, _⟩ := h; rfl) | (obtain ⟨_, _, _, _, rfl, _⟩ := h; rfl) | (obtain ⟨_, _, _, _, _, rfl, _⟩ := h; rfl) | (obtain ⟨_, _, _, _, _, _, rfl, _⟩ := h; rfl) | (obtain ⟨_, _, _, _, _, _, _, rfl, _⟩ := h; rfl) | (obtain ⟨_, _, _, _, _, _, _, _, rfl, _⟩ := h; rfl) | (obtain ⟨_, _, _, _, _, _, _, _, _, rfl, _⟩ := h; rfl) | (obtain ⟨_, _, _, _, _, _, _, _, _, _, rfl, _⟩ := h; rfl) | (obtain ⟨_, _, _, _, _, _, _, _, _, _, _, rfl, _⟩ := h; rfl) | (obtain ⟨_, _, _, _, _, _, _, _, _, _, _, _, rfl, _⟩ := h; rfl) | (obtain ⟨_, _, _, _, _, _, _, _, _, _, _, _, _, rfl, _⟩ := h; rfl) | (obtain ⟨_, _, _, _, _, _, _, _, _, _, _, _, _, _, rfl, _⟩ := h; rfl) | (obtain ⟨_, _, _, _, _, _, _, _, _, _, _, _, _, _, _, rfl, _⟩ := h; rfl)) (fun cdv A outer s H E hr => ⟨body_law_number_1, (b3_cons (m3_set 2 (p3_add (r3 (p3_list (by rfl) B_list (r3_name 0))) (r3 (p3_lst (pa3_cons (p3 r3_int) pa3_nil)))) sc_law_number_1.nd)
      (b3_cons (m3_set 3 (p3 (r3_max2 rfl (by rfl) B_max r3_int (r3_len (by rfl) B_len (r3_name 0)))) sc_law_number_1.nd)
      (b3_cons (m3_set 4 (p3 (r3_ix (r3_name 2) (r3_mod (r3_name 1) (r3_name 3)))) sc_law_number_1.nd)
      (b3_cons (m3_set 5 (p3 (r3_fdiv (r3_name 1) (r3_name 3))) sc_law_number_1.nd)
      (b3_cons (m3_set 6 (p3_move 4) sc_law_number_1.nd)
      (b3_cons (m3_for PassesOwn.never rfl (i3_range1 (by rfl) B_range (r3_min2 rfl (by rfl) B_min (r3_name 5) r3_int)) (g3_name 7 sc_law_number_1.nd) (b3_one (m3_set 6 (p3 (r3_fdiv (r3_name 6) r3_int)) sc_law_number_1.nd)))
      (b3_cons (m3_if (t3_w (w3_and (t3_ge (r3_name 4) (r3_pow r3_int r3_int)) (w3_and (t3_lt (r3_name 5) r3_int) (w3_and1 (t3_gt (r3_name 6) r3_int))))) (b3_one (m3_ret (p3 (r3_mod (r3_name 6) r3_int)))) b3_nil)
      (b3_cons (m3_set 8 (p3 (r3_mod (r3_mul (r3_add (r3_add (r3_add (r3_mod (r3_name 4) r3_int) r3_int) (r3_mul r3_int (r3_name 5))) (r3_mul r3_int (r3_name 1))) r3_int) r3_int)) sc_law_number_1.nd)
      (b3_cons (m3_set 8 (p3 (r3_mod (r3_add (r3_add (r3_mul (r3_name 8) (r3_name 8)) (r3_mul r3_int (r3_name 5))) (r3_mul r3_int (r3_name 1))) r3_int)) sc_law_number_1.nd)
      (b3_one (m3_ret (p3 (r3_mod (r3_fdiv (r3_mod (r3_mul (r3_name 8) r3_int) r3_int) r3_int) r3_int))))))))))))), v_law_number_1⟩)
theorem ok_law_power {f : Addr} {fd : FuncData} {k : Nat} (F : Fun K "_law_power" "_law_power" s_law_power f fd) (B_range : mg "range" = none) : FnOk P w K mg base CX0 (k + 1) f fd ["_law_one", "_law_many"] (lift K sp_law_power) :=
  ok3 F sc_law_power (fun ts Q E h => by first | (obtain ⟨rfl, _⟩ := h; rfl) | (obtain ⟨_, rfl, _⟩ := h; rfl) | (obtain ⟨_, _, rfl, _⟩ := h; rfl) | (obtain ⟨_, _, _, rfl, _⟩ := h; rfl) | (obtain ⟨_, _, _, _, rfl, _⟩ := h; rfl) | (obtain ⟨_, _, _, _, _, rfl, _⟩ := h; rfl) | (obtain ⟨_, _, _, _, _, _, rfl, _⟩ := h; rfl) | (obtain ⟨_, _, _, _, _, _, _, rfl, _⟩ := h; rfl) | (obtain ⟨_, _, _, _, _, _, _, _, rfl, _⟩ := h; rfl) | (obtain ⟨_, _, _, _, _, _, _, _, _, rfl, _⟩ := h; rfl) | (obtain ⟨_, _, _, _, _, _, _, _, _, _, rfl, _⟩ := h; rfl) | (obtain ⟨_, _, _, _, _, _, _, _, _, _, _, rfl, _⟩ := h; rfl) | (obtain ⟨_, _, _, _, _, _, _, _, _, _, _, _, rfl, _⟩ := h; rfl) | (obtain ⟨_, _, _, _, _, _, _, _, _, _, _, _, _, rfl, _⟩ := h; rfl) | (obtain ⟨_, _, _, _, _, _, _, _, _, _, _, _, _, _, rfl, _⟩ := h; rfl) | (obtain ⟨_, _, _, _, _, _, _, _, _, _, _, _, _, _, _, rfl, _⟩ := h; rfl)) (fun cdv A outer s H E hr => ⟨body_law_power, (b3_cons (m3_set 2 (p3 r3_int) sc_law_power.nd)
      (b3_cons (m3_for PassesOwn.never rfl (i3_range1 (by rfl) B_range (r3_name 1)) (g3_name 3 sc_law_power.nd) (b3_one (m3_set 2 (p3 (r3_mul (r3_name 2) (r3_name 0))) sc_law_power.nd)))
      (b3_one (m3_ret (p3_move 2))))), v_law_power⟩)
theorem ok_law_great_1 {f : Addr} {fd : FuncData} {k : Nat} (F : Fun K "_law_great" "_law_great" s_law_great_1 f fd) (B_range : mg "range" = none) (C_law_number_1 : Cal P w K mg base "_law_number" k ["_law_script", "_law_k"] sp_law_number_1) : FnOk P w K mg base CX0 (k + 1) f fd ["_law_script", "_law_k", "_law_groups"] (lift K sp_law_great_1) :=
  ok3 F sc_law_great_1 (fun ts Q E h => by first | (obtain ⟨rfl, _⟩ := h; rfl) | (obtain ⟨_, rfl, _⟩ := h; rfl) | (obtain ⟨_, _, rfl, _⟩ := h; rfl) | (obtain ⟨_, _, _, rfl, _⟩ := h; rfl) | (obtain ⟨_, _, _, _, rfl, _⟩ := h; rfl) | (obtain ⟨_, _, _, _, _, rfl, _⟩ := h; rfl) | (obtain ⟨_, _, _, _, _, _, rfl, _⟩ := h; rfl) | (obtain ⟨_, _, _, _, _, _, _, rfl, _⟩ := h; rfl) | (obtain ⟨_, _, _, _, _, _, _, _, rfl, _⟩ := h; rfl) | (obtain ⟨_, _, _, _, _, _, _, _, _, rfl, _⟩ := h; rfl) | (obtain ⟨_, _, _, _, _, _, _, _, _, _, rfl, _⟩ := h; rfl) | (obtain ⟨_, _, _, _, _, _, _, _, _, _, _, rfl, _⟩ := h; rfl) | (obtain ⟨_, _, _, _, _, _, _, _, _, _, _, _, rfl, _⟩ := h; rfl) | (obtain ⟨_, _, _, _, _, _, _, _, _, _, _, _, _, rfl, _⟩ := h; rfl) | (obtain ⟨_, _, _, _, _, _, _, _, _, _, _, _, _, _, rfl, _⟩ := h; rfl) | (obtain ⟨_, _, _, _, _, _, _, _, _, _, _, _, _, _, _, rfl, _⟩ := h; rfl)) (fun cdv A outer s H E hr => ⟨body_law_great_1, (b3_cons (m3_set 3 (p3_cal C_law_number_1 hr (by rfl) (c3_val (r3_name 0) (c3_val (r3_name 1) c3_nil))) sc_law_great_1.nd)
      (b3_cons (m3_set 4 (p3 (r3_ix (r3 (p3_lst (pa3_cons (p3 r3_int) (pa3_cons (p3 (r3_neg r3_int)) pa3_nil)))) (r3_mod (r3_fdiv (r3_name 3) r3_int) r3_int))) sc_law_great_1.nd)
      (b3_cons (m3_if (t3_eqI (r3_mod (r3_name 3) r3_int) r3_int) (b3_one (m3_ret (p3 (r3_mul (r3_mod (r3_fdiv (r3_name 3) r3_int) r3_int) (r3_name 4))))) b3_nil)
      (b3_cons (m3_if (t3_eqI (r3_mod (r3_name 3) r3_int) r3_int) (b3_one (m3_ret (p3 (r3_mul (r3 (p3_cal C_law_number_1 hr (by rfl) (c3_val (r3_name 0) (c3_val (r3_add (r3_name 1) r3_int) c3_nil)))) (r3_name 4))))) b3_nil)
      (b3_cons (m3_set 5 (p3 r3_int) sc_law_great_1.nd)
      (b3_cons (m3_for PassesOwn.never rfl (i3_range1 (by rfl) B_range (r3_add r3_int (r3_mod (r3_fdiv (r3_name 3) r3_int) (r3_name 2)))) (g3_name 6 sc_law_great_1.nd) (b3_one (m3_set 5 (p3 (r3_add (r3_mul (r3_name 5) (r3_pow r3_int r3_int)) (r3 (p3_cal C_law_number_1 hr (by rfl) (c3_val (r3_name 0) (c3_val (r3_add (r3_add (r3_name 1) r3_int) (r3_name 6)) c3_nil)))))) sc_law_great_1.nd)))
      (b3_one (m3_ret (p3 (r3_mul (r3_name 5) (r3_name 4))))))))))), v_law_great_1⟩)
theorem ok_law_rows_2 {f : Addr} {fd : FuncData} {k : Nat} (F : Fun K "_law_rows" "_law_rows" s_law_rows_2 f fd) (B_int : mg "int" = none) (B_range : mg "range" = none) (B_tuple : mg "tuple" = none) (B_zip : mg "zip" = none) (C_law_great_1 : Cal P w K mg base "_law_great" k ["_law_script", "_law_k", "_law_groups"] sp_law_great_1) (C_law_number_1 : Cal P w K mg base "_law_number" k ["_law_script", "_law_k"] sp_law_number_1) : FnOk P w K mg base CX0 (k + 1) f fd ["_law_script", "_law_start", "_law_wide"] (lift K sp_law_rows_2) :=
  ok3 F sc_law_rows_2 (fun ts Q E h => by first | (obtain ⟨rfl, _⟩ := h; rfl) | (obtain ⟨_, rfl, _⟩ := h; rfl) | (obtain ⟨_, _, rfl, _⟩ := h; rfl) | (obtain ⟨_, _, _, rfl, _⟩ := h; rfl) | (obtain ⟨_, _, _, _, rfl, _⟩ := h; rfl) | (obtain ⟨_, _, _, _, _, rfl, _⟩ := h; rfl) | (obtain ⟨_, _, _, _, _, _, rfl, _⟩ := h; rfl) | (obtain ⟨_, _, _, _, _, _, _, rfl, _⟩ := h; rfl) | (obtain ⟨_, _, _, _, _, _, _, _, rfl, _⟩ := h; rfl) | (obtain ⟨_, _, _, _, _, _, _, _, _, rfl, _⟩ := h; rfl) | (obtain ⟨_, _, _, _, _, _, _, _, _, _, rfl, _⟩ := h; rfl) | (obtain ⟨_, _, _, _, _, _, _, _, _, _, _, rfl, _⟩ := h; rfl) | (obtain ⟨_, _, _, _, _, _, _, _, _, _, _, _, rfl, _⟩ := h; rfl) | (obtain ⟨_, _, _, _, _, _, _, _, _, _, _, _, _, rfl, _⟩ := h; rfl) | (obtain ⟨_, _, _, _, _, _, _, _, _, _, _, _, _, _, rfl, _⟩ := h; rfl) | (obtain ⟨_, _, _, _, _, _, _, _, _, _, _, _, _, _, _, rfl, _⟩ := h; rfl)) (fun cdv A outer s H E hr => ⟨body_law_rows_2, (b3_cons (m3_set 3 (p3_cal C_law_number_1 hr (by rfl) (c3_val (r3_name 0) (c3_val (r3_name 1) c3_nil))) sc_law_rows_2.nd)
      (b3_cons (m3_set 4 (p3 (r3_add r3_int (r3_mod (r3_name 3) r3_int))) sc_law_rows_2.nd)
      (b3_cons (m3_set 5 (p3 (r3_mod (r3_fdiv (r3_name 3) r3_int) r3_int)) sc_law_rows_2.nd)
      (b3_cons (m3_set 6 (p3_lst pa3_nil) sc_law_rows_2.nd)
      (b3_cons (m3_for PassesOwn.never rfl (i3_range1 (by rfl) B_range (r3_name 4)) (g3_name 7 sc_law_rows_2.nd) (b3_cons (m3_set 8 (p3_lst pa3_nil) sc_law_rows_2.nd)
      (b3_cons (m3_for PassesOwn.never rfl (i3_range1 (by rfl) B_range (r3_name 4)) (g3_name 9 sc_law_rows_2.nd) (b3_cons (m3_set 10 (p3_cal C_law_number_1 hr (by rfl) (c3_val (r3_name 0) (c3_val (r3_add (r3_add (r3_add (r3_name 1) r3_int) (r3_mul r3_int (r3_name 7))) (r3_name 9)) c3_nil))) sc_law_rows_2.nd)
      (b3_cons (m3_set 11 (p3_cal C_law_great_1 hr (by rfl) (c3_val (r3_name 0) (c3_val (r3_add (r3_add (r3_add (r3_name 1) r3_int) (r3_mul r3_int (r3_name 7))) (r3_mul r3_int (r3_name 9))) (c3_val (r3_ix (r3 (p3_lst (pa3_cons (p3 r3_int) (pa3_cons (p3 r3_int) pa3_nil)))) (r3_name 2)) c3_nil)))) sc_law_rows_2.nd)
      (b3_cons (m3_set 12 (p3 (r3_mul (r3_ix (r3 (p3_lst (pa3_cons (p3_move 11) (pa3_cons (p3 (r3_int_ (by rfl) B_int (r3_eq hr.units (r3_name 7) (r3_name 9)))) pa3_nil)))) (r3_int_ (by rfl) B_int (r3_gt (r3_name 7) r3_int))) (r3_ix (r3 (p3_lst (pa3_cons (p3 r3_int) (pa3_cons (p3 (r3_ix (r3 (p3_lst (pa3_cons (p3 (r3_pow r3_int r3_int)) (pa3_cons (p3 (r3_pow r3_int r3_int)) pa3_nil)))) (r3_name 2))) pa3_nil)))) (r3_int_ (by rfl) B_int (r3_gt (r3_name 7) r3_int))))) sc_law_rows_2.nd)
      (b3_cons (m3_set 13 (p3 (r3_mul (r3_sub (r3_sub (r3_ix (r3 (p3_lst (pa3_cons (p3 (r3_pow r3_int r3_int)) (pa3_cons (p3 (r3_pow r3_int r3_int)) pa3_nil)))) (r3_name 2)) r3_int) (r3_name 10)) (r3_ix (r3 (p3_lst (pa3_cons (p3 r3_int) (pa3_cons (p3 (r3_neg r3_int)) pa3_nil)))) (r3_mod (r3_name 10) r3_int)))) sc_law_rows_2.nd)
      (b3_one (m3_expr (p3 (r3 (p3_append 8 (p3 (r3_ix (r3 (p3_lst (pa3_cons (p3 (r3_sub (r3_mod (r3_name 10) r3_int) r3_int)) (pa3_cons (p3_move 11) (pa3_cons (p3 (r3_add (r3_mul (r3_fdiv (r3_mod (r3_name 10) r3_int) r3_int) (r3_name 11)) (r3_int_ (by rfl) B_int (r3_eq hr.units (r3_name 7) (r3_name 9))))) (pa3_cons (p3_move 13) (pa3_cons (p3_move 12) (pa3_cons (p3 (r3_int_ (by rfl) B_int (r3_eq hr.units (r3_name 7) (r3_name 9)))) pa3_nil)))))))) (r3_name 5)))))))))))))
      (b3_one (m3_expr (p3 (r3 (p3_append 6 (p3 (r3 (p3_move 8)))))))))))
      (b3_cons (m3_set 14 (p3 (r3_ix (r3 (p3_lst (pa3_cons (p3 r3_int) (pa3_cons (p3 r3_int) (pa3_cons (p3 r3_int) (pa3_cons (p3 r3_int) (pa3_cons (p3 r3_int) (pa3_cons (p3 (r3_add r3_int (r3_mod (r3_fdiv (r3_name 3) r3_int) (r3_ix (r3 (p3_lst (pa3_cons (p3 r3_int) (pa3_cons (p3 r3_int) pa3_nil)))) (r3_name 2))))) pa3_nil)))))))) (r3_name 5))) sc_law_rows_2.nd)
      (b3_cons (m3_for PassesOwn.never rfl (i3_range1 (by rfl) B_range (r3_name 14)) (g3_name 15 sc_law_rows_2.nd) (b3_cons (m3_set 10 (p3_cal C_law_number_1 hr (by rfl) (c3_val (r3_name 0) (c3_val (r3_add (r3_add (r3_name 1) r3_int) (r3_name 15)) c3_nil))) sc_law_rows_2.nd)
      (b3_cons (m3_set 16 (p3 (r3_mod (r3_name 10) (r3_name 4))) sc_law_rows_2.nd)
      (b3_cons (m3_set 17 (p3 (r3_mod (r3_fdiv (r3_name 10) r3_int) (r3_name 4))) sc_law_rows_2.nd)
      (b3_cons (m3_set 18 (p3 (r3_sub (r3_mod (r3_fdiv (r3_name 10) r3_int) r3_int) r3_int)) sc_law_rows_2.nd)
      (b3_cons (m3_if (t3_eq hr.units (r3_name 16) (r3_name 17)) (b3_one (m3_set 18 (p3 (r3_ix (r3 (p3_lst (pa3_cons (p3 r3_int) (pa3_cons (p3 (r3_neg r3_int)) (pa3_cons (p3 r3_int) pa3_nil))))) (r3_mod (r3_fdiv (r3_name 10) r3_int) r3_int))) sc_law_rows_2.nd)) b3_nil)
      (b3_one (m3_asg (p3 (r3 (p3_lc (own := [("_law_left", 19), ("_law_right", 20)]) (js := [19, 20]) rfl sc_law_rows_2.nd (i3_zipX (by rfl) B_zip (r3_ix (r3_name 6) (r3_name 16)) (r3_ix (r3_name 6) (r3_name 17))) (blkOk_by (N := N_law_rows_2) (sc := defScope s_law_rows_2) (by decide +kernel)) (by decide) (fun _ _ _ _ _ => (g3_tup (n := 2) rfl (gs3_cons (g3_name 19 sc_law_rows_2.nd) (gs3_cons (g3_name 20 sc_law_rows_2.nd) gs3_nil)))) (fun _ _ _ _ _ => ts3_nil) (fun _ _ _ _ _ => (p3 (r3_add (r3_name 19) (r3_mul (r3_name 18) (r3_name 20)))))))) (g3_sub 6 (r3_name 16))))))))))
      (b3_one (m3_ret (p3 (r3_tuple (by rfl) B_tuple (r3 (p3_lc (own := [("_law_row", 8)]) (js := [8]) rfl sc_law_rows_2.nd (i3_seq (r3 (p3_move 6))) (blkOk_by (N := N_law_rows_2) (sc := defScope s_law_rows_2) (by decide +kernel)) (by decide) (fun _ _ _ _ _ => (g3_name 8 sc_law_rows_2.nd)) (fun _ _ _ _ _ => ts3_nil) (fun _ _ _ _ _ => (p3 (r3_tuple (by rfl) B_tuple (r3_name 8))))))))))))))))), v_law_rows_2⟩)
theorem ok_is_square {f : Addr} {fd : FuncData} {k : Nat} (F : Fun K "is_square" "is_square" s_is_square f fd) (B_len : mg "len" = none) : FnOk P w K mg base CX0 (k + 1) f fd ["rows"] (lift K sp_is_square) :=
  ok3 F sc_is_square (fun ts Q E h => by first | (obtain ⟨rfl, _⟩ := h; rfl) | (obtain ⟨_, rfl, _⟩ := h; rfl) | (obtain ⟨_, _, rfl, _⟩ := h; rfl) | (obtain ⟨_, _, _, rfl, _⟩ := h; rfl) | (obtain ⟨_, _, _, _, rfl, _⟩ := h; rfl) | (obtain ⟨_, _, _, _, _, rfl, _⟩ := h; rfl) | (obtain ⟨_, _, _, _, _, _, rfl, _⟩ := h; rfl) | (obtain ⟨_, _, _, _, _, _, _, rfl, _⟩ := h; rfl) | (obtain ⟨_, _, _, _, _, _, _, _, rfl, _⟩ := h; rfl) | (obtain ⟨_, _, _, _, _, _, _, _, _, rfl, _⟩ := h; rfl) | (obtain ⟨_, _, _, _, _, _, _, _, _, _, rfl, _⟩ := h; rfl) | (obtain ⟨_, _, _, _, _, _, _, _, _, _, _, rfl, _⟩ := h; rfl) | (obtain ⟨_, _, _, _, _, _, _, _, _, _, _, _, rfl, _⟩ := h; rfl) | (obtain ⟨_, _, _, _, _, _, _, _, _, _, _, _, _, rfl, _⟩ := h; rfl) | (obtain ⟨_, _, _, _, _, _, _, _, _, _, _, _, _, _, rfl, _⟩ := h; rfl) | (obtain ⟨_, _, _, _, _, _, _, _, _, _, _, _, _, _, _, rfl, _⟩ := h; rfl)) (fun cdv A outer s H E hr => ⟨body_is_square, (b3_one (m3_ret (p3 (r3_and (r3_gt (r3_len (by rfl) B_len (r3_name 0)) r3_int) (r3_one (r3_eq hr.units (r3 (p3_lc (own := [("row", 1)]) (js := [1]) rfl sc_is_square.nd (i3_seq (r3_name 0)) (blkOk_by (N := N_is_square) (sc := defScope s_is_square) (by decide +kernel)) (by decide) (fun _ _ _ _ _ => (g3_name 1 sc_is_square.nd)) (fun _ _ _ _ _ => (ts3_one (t3_neI (r3_len (by rfl) B_len (r3_name 1)) (r3_len (by rfl) B_len (r3_name 0))))) (fun _ _ _ _ _ => (p3_move 1)))) (r3 (p3_lst pa3_nil)))))))), v_is_square⟩)
theorem ok_taken_off {f : Addr} {fd : FuncData} {k : Nat} (F : Fun K "taken_off" "taken_off" s_taken_off f fd) (B_zip : mg "zip" = none) : FnOk P w K mg base CX0 (k + 1) f fd ["row", "many", "other"] (lift K sp_taken_off) :=
  ok3 F sc_taken_off (fun ts Q E h => by first | (obtain ⟨rfl, _⟩ := h; rfl) | (obtain ⟨_, rfl, _⟩ := h; rfl) | (obtain ⟨_, _, rfl, _⟩ := h; rfl) | (obtain ⟨_, _, _, rfl, _⟩ := h; rfl) | (obtain ⟨_, _, _, _, rfl, _⟩ := h; rfl) | (obtain ⟨_, _, _, _, _, rfl, _⟩ := h; rfl) | (obtain ⟨_, _, _, _, _, _, rfl, _⟩ := h; rfl) | (obtain ⟨_, _, _, _, _, _, _, rfl, _⟩ := h; rfl) | (obtain ⟨_, _, _, _, _, _, _, _, rfl, _⟩ := h; rfl) | (obtain ⟨_, _, _, _, _, _, _, _, _, rfl, _⟩ := h; rfl) | (obtain ⟨_, _, _, _, _, _, _, _, _, _, rfl, _⟩ := h; rfl) | (obtain ⟨_, _, _, _, _, _, _, _, _, _, _, rfl, _⟩ := h; rfl) | (obtain ⟨_, _, _, _, _, _, _, _, _, _, _, _, rfl, _⟩ := h; rfl) | (obtain ⟨_, _, _, _, _, _, _, _, _, _, _, _, _, rfl, _⟩ := h; rfl) | (obtain ⟨_, _, _, _, _, _, _, _, _, _, _, _, _, _, rfl, _⟩ := h; rfl) | (obtain ⟨_, _, _, _, _, _, _, _, _, _, _, _, _, _, _, rfl, _⟩ := h; rfl)) (fun cdv A outer s H E hr => ⟨body_taken_off, (b3_one (m3_ret (p3_lc (own := [("number", 3), ("beside", 4)]) (js := [3, 4]) rfl sc_taken_off.nd (i3_zipX (by rfl) B_zip (r3_name 0) (r3_name 2)) (blkOk_by (N := N_taken_off) (sc := defScope s_taken_off) (by decide +kernel)) (by decide) (fun _ _ _ _ _ => (g3_tup (n := 2) rfl (gs3_cons (g3_name 3 sc_taken_off.nd) (gs3_cons (g3_name 4 sc_taken_off.nd) gs3_nil)))) (fun _ _ _ _ _ => ts3_nil) (fun _ _ _ _ _ => (p3 (r3_sub (r3_name 3) (r3_mul (r3_name 1) (r3_name 4)))))))), v_taken_off⟩)
theorem ok_stepped {f : Addr} {fd : FuncData} {k : Nat} (F : Fun K "stepped" "stepped" s_stepped f fd) (B_len : mg "len" = none) (B_list : mg "list" = none) (B_range : mg "range" = none) (C_taken_off : Cal P w K mg base "taken_off" k ["row", "many", "other"] sp_taken_off) : FnOk P w K mg base CX0 (k + 1) f fd ["rows"] (lift K sp_stepped) :=
  ok3 F sc_stepped (fun ts Q E h => by first | (obtain ⟨rfl, _⟩ := h; rfl) | (obtain ⟨_, rfl, _⟩ := h; rfl) | (obtain ⟨_, _, rfl, _⟩ := h; rfl) | (obtain ⟨_, _, _, rfl, _⟩ := h; rfl) | (obtain ⟨_, _, _, _, rfl, _⟩ := h; rfl) | (obtain ⟨_, _, _, _, _, rfl, _⟩ := h; rfl) | (obtain ⟨_, _, _, _, _, _, rfl, _⟩ := h; rfl) | (obtain ⟨_, _, _, _, _, _, _, rfl, _⟩ := h; rfl) | (obtain ⟨_, _, _, _, _, _, _, _, rfl, _⟩ := h; rfl) | (obtain ⟨_, _, _, _, _, _, _, _, _, rfl, _⟩ := h; rfl) | (obtain ⟨_, _, _, _, _, _, _, _, _, _, rfl, _⟩ := h; rfl) | (obtain ⟨_, _, _, _, _, _, _, _, _, _, _, rfl, _⟩ := h; rfl) | (obtain ⟨_, _, _, _, _, _, _, _, _, _, _, _, rfl, _⟩ := h; rfl) | (obtain ⟨_, _, _, _, _, _, _, _, _, _, _, _, _, rfl, _⟩ := h; rfl) | (obtain ⟨_, _, _, _, _, _, _, _, _, _, _, _, _, _, rfl, _⟩ := h; rfl) | (obtain ⟨_, _, _, _, _, _, _, _, _, _, _, _, _, _, _, rfl, _⟩ := h; rfl)) (fun cdv A outer s H E hr => ⟨body_stepped, (b3_cons (m3_setLc 1 (own := [("row", 5)]) (js := [5]) rfl sc_stepped.nd (i3_seq (r3_name 0)) (blkOk_by (N := N_stepped) (sc := defScope s_stepped) (by decide +kernel)) (by decide) (fun _ _ _ _ _ => (g3_name 5 sc_stepped.nd)) (fun _ _ _ _ _ => ts3_nil) (fun _ _ _ _ _ => (p3 (r3 (p3_list (by rfl) B_list (r3_name 5))))))
      (b3_cons (m3_for PassesOwn.never rfl (i3_range1 (by rfl) B_range (r3_len (by rfl) B_len (r3_name 1))) (g3_name 2 sc_stepped.nd) (b3_cons (m3_for PassesOwn.never rfl (i3_range2 (by rfl) B_range (r3_add (r3_name 2) r3_int) (r3_len (by rfl) B_len (r3_name 1))) (g3_name 3 sc_stepped.nd) (b3_one (m3_while PassesOwn.never (t3_neI (r3_ix (r3_ix (r3_name 1) (r3_name 3)) (r3_name 2)) r3_int) (b3_cons (m3_set 4 (p3 (r3_fdivF (r3_ix (r3_ix (r3_name 1) (r3_name 2)) (r3_name 2)) (r3_ix (r3_ix (r3_name 1) (r3_name 3)) (r3_name 2)))) sc_stepped.nd)
      (b3_one (m3_asg (p3_tup (pa3_cons (p3 (r3_ix (r3_name 1) (r3_name 3))) (pa3_cons (p3 (r3 (p3_cal C_taken_off hr (by rfl) (c3_val (r3_ix (r3_name 1) (r3_name 2)) (c3_val (r3_name 4) (c3_val (r3_ix (r3_name 1) (r3_name 3)) c3_nil)))))) pa3_nil))) (g3_tup (n := 2) rfl (gs3_cons (g3_sub 1 (r3_name 2)) (gs3_cons (g3_sub 1 (r3_name 3)) gs3_nil)))))))))
      (b3_one (m3_if (t3_lt (r3_ix (r3_ix (r3_name 1) (r3_name 2)) (r3_name 2)) r3_int) (b3_one (m3_asg (p3 (r3 (p3_lc (own := [("number", 6)]) (js := [6]) rfl sc_stepped.nd (i3_seq (r3_ix (r3_name 1) (r3_name 2))) (blkOk_by (N := N_stepped) (sc := defScope s_stepped) (by decide +kernel)) (by decide) (fun _ _ _ _ _ => (g3_name 6 sc_stepped.nd)) (fun _ _ _ _ _ => ts3_nil) (fun _ _ _ _ _ => (p3 (r3_sub r3_int (r3_name 6))))))) (g3_sub 1 (r3_name 2)))) b3_nil))))
      (b3_one (m3_ret (p3_move 1))))), v_stepped⟩)
theorem ok_measure_of {f : Addr} {fd : FuncData} {k : Nat} (F : Fun K "measure_of" "measure_of" s_measure_of f fd) (B_enumerate : mg "enumerate" = none) (C_stepped : Cal P w K mg base "stepped" k ["rows"] sp_stepped) : FnOk P w K mg base CX0 (k + 1) f fd ["rows"] (lift K sp_measure_of) :=
  ok3 F sc_measure_of (fun ts Q E h => by first | (obtain ⟨rfl, _⟩ := h; rfl) | (obtain ⟨_, rfl, _⟩ := h; rfl) | (obtain ⟨_, _, rfl, _⟩ := h; rfl) | (obtain ⟨_, _, _, rfl, _⟩ := h; rfl) | (obtain ⟨_, _, _, _, rfl, _⟩ := h; rfl) | (obtain ⟨_, _, _, _, _, rfl, _⟩ := h; rfl) | (obtain ⟨_, _, _, _, _, _, rfl, _⟩ := h; rfl) | (obtain ⟨_, _, _, _, _, _, _, rfl, _⟩ := h; rfl) | (obtain ⟨_, _, _, _, _, _, _, _, rfl, _⟩ := h; rfl) | (obtain ⟨_, _, _, _, _, _, _, _, _, rfl, _⟩ := h; rfl) | (obtain ⟨_, _, _, _, _, _, _, _, _, _, rfl, _⟩ := h; rfl) | (obtain ⟨_, _, _, _, _, _, _, _, _, _, _, rfl, _⟩ := h; rfl) | (obtain ⟨_, _, _, _, _, _, _, _, _, _, _, _, rfl, _⟩ := h; rfl) | (obtain ⟨_, _, _, _, _, _, _, _, _, _, _, _, _, rfl, _⟩ := h; rfl) | (obtain ⟨_, _, _, _, _, _, _, _, _, _, _, _, _, _, rfl, _⟩ := h; rfl) | (obtain ⟨_, _, _, _, _, _, _, _, _, _, _, _, _, _, _, rfl, _⟩ := h; rfl)) (fun cdv A outer s H E hr => ⟨body_measure_of, (b3_cons (m3_set 1 (p3 r3_int) sc_measure_of.nd)
      (b3_cons (m3_for PassesOwn.never rfl (i3_enum (by rfl) B_enumerate (r3 (p3_cal C_stepped hr (by rfl) (c3_val (r3_name 0) c3_nil)))) (g3_tup (n := 2) rfl (gs3_cons (g3_name 2 sc_measure_of.nd) (gs3_cons (g3_name 3 sc_measure_of.nd) gs3_nil))) (b3_one (m3_aug 1 iop_mul3 (r3_ix (r3_name 3) (r3_name 2)) sc_measure_of.nd)))
      (b3_one (m3_ret (p3_move 1))))), v_measure_of⟩)
theorem ok_is_lattice {f : Addr} {fd : FuncData} {k : Nat} (F : Fun K "is_lattice" "is_lattice" s_is_lattice f fd) (C_is_square : Cal P w K mg base "is_square" k ["rows"] sp_is_square) (C_measure_of : Cal P w K mg base "measure_of" k ["rows"] sp_measure_of) : FnOk P w K mg base CX0 (k + 1) f fd ["rows"] (lift K sp_is_lattice) :=
  ok3 F sc_is_lattice (fun ts Q E h => by first | (obtain ⟨rfl, _⟩ := h; rfl) | (obtain ⟨_, rfl, _⟩ := h; rfl) | (obtain ⟨_, _, rfl, _⟩ := h; rfl) | (obtain ⟨_, _, _, rfl, _⟩ := h; rfl) | (obtain ⟨_, _, _, _, rfl, _⟩ := h; rfl) | (obtain ⟨_, _, _, _, _, rfl, _⟩ := h; rfl) | (obtain ⟨_, _, _, _, _, _, rfl, _⟩ := h; rfl) | (obtain ⟨_, _, _, _, _, _, _, rfl, _⟩ := h; rfl) | (obtain ⟨_, _, _, _, _, _, _, _, rfl, _⟩ := h; rfl) | (obtain ⟨_, _, _, _, _, _, _, _, _, rfl, _⟩ := h; rfl) | (obtain ⟨_, _, _, _, _, _, _, _, _, _, rfl, _⟩ := h; rfl) | (obtain ⟨_, _, _, _, _, _, _, _, _, _, _, rfl, _⟩ := h; rfl) | (obtain ⟨_, _, _, _, _, _, _, _, _, _, _, _, rfl, _⟩ := h; rfl) | (obtain ⟨_, _, _, _, _, _, _, _, _, _, _, _, _, rfl, _⟩ := h; rfl) | (obtain ⟨_, _, _, _, _, _, _, _, _, _, _, _, _, _, rfl, _⟩ := h; rfl) | (obtain ⟨_, _, _, _, _, _, _, _, _, _, _, _, _, _, _, rfl, _⟩ := h; rfl)) (fun cdv A outer s H E hr => ⟨body_is_lattice, (b3_one (m3_ret (p3 (r3_and (r3 (p3_cal C_is_square hr (by rfl) (c3_val (r3_name 0) c3_nil))) (r3_one (r3_gt (r3 (p3_cal C_measure_of hr (by rfl) (c3_val (r3_name 0) c3_nil))) r3_int)))))), v_is_lattice⟩)
theorem ok_need_lattice {f : Addr} {fd : FuncData} {k : Nat} (F : Fun K "need_lattice" "need_lattice" s_need_lattice f fd) (C_is_lattice : Cal P w K mg base "is_lattice" k ["rows"] sp_is_lattice) : FnOk P w K mg base CX0 (k + 1) f fd ["rows"] (lift K sp_need_lattice) :=
  ok3 F sc_need_lattice (fun ts Q E h => by first | (obtain ⟨rfl, _⟩ := h; rfl) | (obtain ⟨_, rfl, _⟩ := h; rfl) | (obtain ⟨_, _, rfl, _⟩ := h; rfl) | (obtain ⟨_, _, _, rfl, _⟩ := h; rfl) | (obtain ⟨_, _, _, _, rfl, _⟩ := h; rfl) | (obtain ⟨_, _, _, _, _, rfl, _⟩ := h; rfl) | (obtain ⟨_, _, _, _, _, _, rfl, _⟩ := h; rfl) | (obtain ⟨_, _, _, _, _, _, _, rfl, _⟩ := h; rfl) | (obtain ⟨_, _, _, _, _, _, _, _, rfl, _⟩ := h; rfl) | (obtain ⟨_, _, _, _, _, _, _, _, _, rfl, _⟩ := h; rfl) | (obtain ⟨_, _, _, _, _, _, _, _, _, _, rfl, _⟩ := h; rfl) | (obtain ⟨_, _, _, _, _, _, _, _, _, _, _, rfl, _⟩ := h; rfl) | (obtain ⟨_, _, _, _, _, _, _, _, _, _, _, _, rfl, _⟩ := h; rfl) | (obtain ⟨_, _, _, _, _, _, _, _, _, _, _, _, _, rfl, _⟩ := h; rfl) | (obtain ⟨_, _, _, _, _, _, _, _, _, _, _, _, _, _, rfl, _⟩ := h; rfl) | (obtain ⟨_, _, _, _, _, _, _, _, _, _, _, _, _, _, _, rfl, _⟩ := h; rfl)) (fun cdv A outer s H E hr => ⟨body_need_lattice, (b3_one (m3_if (t3_not (t3_val (r3 (p3_cal C_is_lattice hr (by rfl) (c3_val (r3_name 0) c3_nil))))) (b3_one m3_never) b3_nil)), v_need_lattice⟩)
theorem ok_standing {f : Addr} {fd : FuncData} {k : Nat} (F : Fun K "standing" "standing" s_standing f fd) (B_len : mg "len" = none) (B_range : mg "range" = none) (B_tuple : mg "tuple" = none) (C_need_lattice : Cal P w K mg base "need_lattice" k ["rows"] sp_need_lattice) (C_stepped : Cal P w K mg base "stepped" k ["rows"] sp_stepped) (C_taken_off : Cal P w K mg base "taken_off" k ["row", "many", "other"] sp_taken_off) : FnOk P w K mg base CX0 (k + 1) f fd ["rows"] (lift K sp_standing) :=
  ok3 F sc_standing (fun ts Q E h => by first | (obtain ⟨rfl, _⟩ := h; rfl) | (obtain ⟨_, rfl, _⟩ := h; rfl) | (obtain ⟨_, _, rfl, _⟩ := h; rfl) | (obtain ⟨_, _, _, rfl, _⟩ := h; rfl) | (obtain ⟨_, _, _, _, rfl, _⟩ := h; rfl) | (obtain ⟨_, _, _, _, _, rfl, _⟩ := h; rfl) | (obtain ⟨_, _, _, _, _, _, rfl, _⟩ := h; rfl) | (obtain ⟨_, _, _, _, _, _, _, rfl, _⟩ := h; rfl) | (obtain ⟨_, _, _, _, _, _, _, _, rfl, _⟩ := h; rfl) | (obtain ⟨_, _, _, _, _, _, _, _, _, rfl, _⟩ := h; rfl) | (obtain ⟨_, _, _, _, _, _, _, _, _, _, rfl, _⟩ := h; rfl) | (obtain ⟨_, _, _, _, _, _, _, _, _, _, _, rfl, _⟩ := h; rfl) | (obtain ⟨_, _, _, _, _, _, _, _, _, _, _, _, rfl, _⟩ := h; rfl) | (obtain ⟨_, _, _, _, _, _, _, _, _, _, _, _, _, rfl, _⟩ := h; rfl) | (obtain ⟨_, _, _, _, _, _, _, _, _, _, _, _, _, _, rfl, _⟩ := h; rfl) | (obtain ⟨_, _, _, _, _, _, _, _, _, _, _, _, _, _, _, rfl, _⟩ := h; rfl)) (fun cdv A outer s H E hr => ⟨body_standing, (b3_cons (m3_expr (p3 (r3 (p3_cal C_need_lattice hr (by rfl) (c3_val (r3_name 0) c3_nil)))))
      (b3_cons (m3_set 1 (p3_cal C_stepped hr (by rfl) (c3_val (r3_name 0) c3_nil)) sc_standing.nd)
      (b3_cons (m3_for PassesOwn.never rfl (i3_range1 (by rfl) B_range (r3_len (by rfl) B_len (r3_name 1))) (g3_name 2 sc_standing.nd) (b3_one (m3_for PassesOwn.never rfl (i3_range1 (by rfl) B_range (r3_name 2)) (g3_name 3 sc_standing.nd) (b3_cons (m3_set 4 (p3 (r3_fdiv (r3_ix (r3_ix (r3_name 1) (r3_name 3)) (r3_name 2)) (r3_ix (r3_ix (r3_name 1) (r3_name 2)) (r3_name 2)))) sc_standing.nd)
      (b3_one (m3_asg (p3 (r3 (p3_cal C_taken_off hr (by rfl) (c3_val (r3_ix (r3_name 1) (r3_name 3)) (c3_val (r3_name 4) (c3_val (r3_ix (r3_name 1) (r3_name 2)) c3_nil)))))) (g3_sub 1 (r3_name 3))))))))
      (b3_one (m3_ret (p3 (r3_tuple (by rfl) B_tuple (r3 (p3_lc (own := [("row", 5)]) (js := [5]) rfl sc_standing.nd (i3_seq (r3 (p3_move 1))) (blkOk_by (N := N_standing) (sc := defScope s_standing) (by decide +kernel)) (by decide) (fun _ _ _ _ _ => (g3_name 5 sc_standing.nd)) (fun _ _ _ _ _ => ts3_nil) (fun _ _ _ _ _ => (p3 (r3_tuple (by rfl) B_tuple (r3_name 5))))))))))))), v_standing⟩)
theorem ok_has_row {f : Addr} {fd : FuncData} {k : Nat} (F : Fun K "has_row" "has_row" s_has_row f fd) (B_enumerate : mg "enumerate" = none) (B_len : mg "len" = none) (B_list : mg "list" = none) (C_need_lattice : Cal P w K mg base "need_lattice" k ["rows"] sp_need_lattice) (C_standing : Cal P w K mg base "standing" k ["rows"] sp_standing) (C_taken_off : Cal P w K mg base "taken_off" k ["row", "many", "other"] sp_taken_off) : FnOk P w K mg base CX0 (k + 1) f fd ["rows", "row"] (lift K sp_has_row) :=
  ok3 F sc_has_row (fun ts Q E h => by first | (obtain ⟨rfl, _⟩ := h; rfl) | (obtain ⟨_, rfl, _⟩ := h; rfl) | (obtain ⟨_, _, rfl, _⟩ := h; rfl) | (obtain ⟨_, _, _, rfl, _⟩ := h; rfl) | (obtain ⟨_, _, _, _, rfl, _⟩ := h; rfl) | (obtain ⟨_, _, _, _, _, rfl, _⟩ := h; rfl) | (obtain ⟨_, _, _, _, _, _, rfl, _⟩ := h; rfl) | (obtain ⟨_, _, _, _, _, _, _, rfl, _⟩ := h; rfl) | (obtain ⟨_, _, _, _, _, _, _, _, rfl, _⟩ := h; rfl) | (obtain ⟨_, _, _, _, _, _, _, _, _, rfl, _⟩ := h; rfl) | (obtain ⟨_, _, _, _, _, _, _, _, _, _, rfl, _⟩ := h; rfl) | (obtain ⟨_, _, _, _, _, _, _, _, _, _, _, rfl, _⟩ := h; rfl) | (obtain ⟨_, _, _, _, _, _, _, _, _, _, _, _, rfl, _⟩ := h; rfl) | (obtain ⟨_, _, _, _, _, _, _, _, _, _, _, _, _, rfl, _⟩ := h; rfl) | (obtain ⟨_, _, _, _, _, _, _, _, _, _, _, _, _, _, rfl, _⟩ := h; rfl) | (obtain ⟨_, _, _, _, _, _, _, _, _, _, _, _, _, _, _, rfl, _⟩ := h; rfl)) (fun cdv A outer s H E hr => ⟨body_has_row, (b3_cons (m3_expr (p3_cal C_need_lattice hr (by rfl) (c3_val (r3_name 0) c3_nil)))
      (b3_cons (m3_if (t3_neI (r3_len (by rfl) B_len (r3_name 1)) (r3_len (by rfl) B_len (r3_name 0))) (b3_one (m3_ret (p3 r3_bool))) b3_nil)
      (b3_cons (m3_set 2 (p3_list (by rfl) B_list (r3_name 1)) sc_has_row.nd)
      (b3_fz 2 (b3_cons (m3_for PassesOwn.never rfl (i3_enumX (by rfl) B_enumerate (r3 (p3_cal C_standing hr (by rfl) (c3_val (r3_name 0) c3_nil)))) (g3_tup (n := 2) rfl (gs3_cons (g3_name 3 sc_has_row.nd) (gs3_cons (g3_name 4 sc_has_row.nd) gs3_nil))) (b3_cons (m3_set 2 (p3_cal C_taken_off hr (by rfl) (c3_val (r3_name 2) (c3_val (r3_fdiv (r3_ix (r3_name 2) (r3_name 3)) (r3_ix (r3_name 4) (r3_name 3))) (c3_val (r3_name 4) c3_nil)))) sc_has_row.nd)
      (b3_fz 2 (b3_one (m3_if (t3_neI (r3_ix (r3_name 2) (r3_name 3)) r3_int) (b3_one (m3_ret (p3 r3_bool))) b3_nil)))))
      (b3_one (m3_ret (p3 r3_bool)))))))), v_has_row⟩)
theorem ok_measure {f : Addr} {fd : FuncData} {k : Nat} (F : Fun K "measure" "measure" s_measure f fd) (C_measure_of : Cal P w K mg base "measure_of" k ["rows"] sp_measure_of) (C_need_lattice : Cal P w K mg base "need_lattice" k ["rows"] sp_need_lattice) : FnOk P w K mg base CX0 (k + 1) f fd ["rows"] (lift K sp_measure) :=
  ok3 F sc_measure (fun ts Q E h => by first | (obtain ⟨rfl, _⟩ := h; rfl) | (obtain ⟨_, rfl, _⟩ := h; rfl) | (obtain ⟨_, _, rfl, _⟩ := h; rfl) | (obtain ⟨_, _, _, rfl, _⟩ := h; rfl) | (obtain ⟨_, _, _, _, rfl, _⟩ := h; rfl) | (obtain ⟨_, _, _, _, _, rfl, _⟩ := h; rfl) | (obtain ⟨_, _, _, _, _, _, rfl, _⟩ := h; rfl) | (obtain ⟨_, _, _, _, _, _, _, rfl, _⟩ := h; rfl) | (obtain ⟨_, _, _, _, _, _, _, _, rfl, _⟩ := h; rfl) | (obtain ⟨_, _, _, _, _, _, _, _, _, rfl, _⟩ := h; rfl) | (obtain ⟨_, _, _, _, _, _, _, _, _, _, rfl, _⟩ := h; rfl) | (obtain ⟨_, _, _, _, _, _, _, _, _, _, _, rfl, _⟩ := h; rfl) | (obtain ⟨_, _, _, _, _, _, _, _, _, _, _, _, rfl, _⟩ := h; rfl) | (obtain ⟨_, _, _, _, _, _, _, _, _, _, _, _, _, rfl, _⟩ := h; rfl) | (obtain ⟨_, _, _, _, _, _, _, _, _, _, _, _, _, _, rfl, _⟩ := h; rfl) | (obtain ⟨_, _, _, _, _, _, _, _, _, _, _, _, _, _, _, rfl, _⟩ := h; rfl)) (fun cdv A outer s H E hr => ⟨body_measure, (b3_cons (m3_expr (p3_cal C_need_lattice hr (by rfl) (c3_val (r3_name 0) c3_nil)))
      (b3_one (m3_ret (p3_cal C_measure_of hr (by rfl) (c3_val (r3_name 0) c3_nil))))), v_measure⟩)
theorem ok_product_of {f : Addr} {fd : FuncData} {k : Nat} (F : Fun K "product_of" "product_of" s_product_of f fd) (B_sum : mg "sum" = none) (B_zip : mg "zip" = none) : FnOk P w K mg base CX0 (k + 1) f fd ["one", "other"] (lift K sp_product_of) :=
  ok3 F sc_product_of (fun ts Q E h => by first | (obtain ⟨rfl, _⟩ := h; rfl) | (obtain ⟨_, rfl, _⟩ := h; rfl) | (obtain ⟨_, _, rfl, _⟩ := h; rfl) | (obtain ⟨_, _, _, rfl, _⟩ := h; rfl) | (obtain ⟨_, _, _, _, rfl, _⟩ := h; rfl) | (obtain ⟨_, _, _, _, _, rfl, _⟩ := h; rfl) | (obtain ⟨_, _, _, _, _, _, rfl, _⟩ := h; rfl) | (obtain ⟨_, _, _, _, _, _, _, rfl, _⟩ := h; rfl) | (obtain ⟨_, _, _, _, _, _, _, _, rfl, _⟩ := h; rfl) | (obtain ⟨_, _, _, _, _, _, _, _, _, rfl, _⟩ := h; rfl) | (obtain ⟨_, _, _, _, _, _, _, _, _, _, rfl, _⟩ := h; rfl) | (obtain ⟨_, _, _, _, _, _, _, _, _, _, _, rfl, _⟩ := h; rfl) | (obtain ⟨_, _, _, _, _, _, _, _, _, _, _, _, rfl, _⟩ := h; rfl) | (obtain ⟨_, _, _, _, _, _, _, _, _, _, _, _, _, rfl, _⟩ := h; rfl) | (obtain ⟨_, _, _, _, _, _, _, _, _, _, _, _, _, _, rfl, _⟩ := h; rfl) | (obtain ⟨_, _, _, _, _, _, _, _, _, _, _, _, _, _, _, rfl, _⟩ := h; rfl)) (fun cdv A outer s H E hr => ⟨body_product_of, (b3_one (m3_ret (p3 (r3_sum rfl (by rfl) B_sum (r3 (p3_lc (own := [("left", 2), ("right", 3)]) (js := [2, 3]) rfl sc_product_of.nd (i3_zipX (by rfl) B_zip (r3_name 0) (r3_name 1)) (blkOk_by (N := N_product_of) (sc := defScope s_product_of) (by decide +kernel)) (by decide) (fun _ _ _ _ _ => (g3_tup (n := 2) rfl (gs3_cons (g3_name 2 sc_product_of.nd) (gs3_cons (g3_name 3 sc_product_of.nd) gs3_nil)))) (fun _ _ _ _ _ => ts3_nil) (fun _ _ _ _ _ => (p3 (r3_mul (r3_name 2) (r3_name 3)))))))))), v_product_of⟩)
theorem ok_shares_of {f : Addr} {fd : FuncData} {k : Nat} (F : Fun K "shares_of" "shares_of" s_shares_of f fd) (B_enumerate : mg "enumerate" = none) (B_range : mg "range" = none) (C_product_of : Cal P w K mg base "product_of" k ["one", "other"] sp_product_of) : FnOk P w K mg base CX0 (k + 1) f fd ["rows"] (lift K sp_shares_of) :=
  ok3 F sc_shares_of (fun ts Q E h => by first | (obtain ⟨rfl, _⟩ := h; rfl) | (obtain ⟨_, rfl, _⟩ := h; rfl) | (obtain ⟨_, _, rfl, _⟩ := h; rfl) | (obtain ⟨_, _, _, rfl, _⟩ := h; rfl) | (obtain ⟨_, _, _, _, rfl, _⟩ := h; rfl) | (obtain ⟨_, _, _, _, _, rfl, _⟩ := h; rfl) | (obtain ⟨_, _, _, _, _, _, rfl, _⟩ := h; rfl) | (obtain ⟨_, _, _, _, _, _, _, rfl, _⟩ := h; rfl) | (obtain ⟨_, _, _, _, _, _, _, _, rfl, _⟩ := h; rfl) | (obtain ⟨_, _, _, _, _, _, _, _, _, rfl, _⟩ := h; rfl) | (obtain ⟨_, _, _, _, _, _, _, _, _, _, rfl, _⟩ := h; rfl) | (obtain ⟨_, _, _, _, _, _, _, _, _, _, _, rfl, _⟩ := h; rfl) | (obtain ⟨_, _, _, _, _, _, _, _, _, _, _, _, rfl, _⟩ := h; rfl) | (obtain ⟨_, _, _, _, _, _, _, _, _, _, _, _, _, rfl, _⟩ := h; rfl) | (obtain ⟨_, _, _, _, _, _, _, _, _, _, _, _, _, _, rfl, _⟩ := h; rfl) | (obtain ⟨_, _, _, _, _, _, _, _, _, _, _, _, _, _, _, rfl, _⟩ := h; rfl)) (fun cdv A outer s H E hr => ⟨body_shares_of, (b3_cons (m3_set 1 (p3_lst (pa3_cons (p3 r3_int) pa3_nil)) sc_shares_of.nd)
      (b3_cons (m3_set 2 (p3_lst pa3_nil) sc_shares_of.nd)
      (b3_cons (m3_for PassesOwn.never rfl (i3_enumX (by rfl) B_enumerate (r3_name 0)) (g3_tup (n := 2) rfl (gs3_cons (g3_name 3 sc_shares_of.nd) (gs3_cons (g3_name 4 sc_shares_of.nd) gs3_nil))) (b3_cons (m3_set 5 (p3_lst pa3_nil) sc_shares_of.nd)
      (b3_cons (m3_for PassesOwn.never rfl (i3_range1 (by rfl) B_range (r3_add (r3_name 3) r3_int)) (g3_name 6 sc_shares_of.nd) (b3_cons (m3_set 7 (p3_cal C_product_of hr (by rfl) (c3_val (r3_name 4) (c3_val (r3_ix (r3_name 0) (r3_name 6)) c3_nil))) sc_shares_of.nd)
      (b3_cons (m3_for PassesOwn.never rfl (i3_range1 (by rfl) B_range (r3_name 6)) (g3_name 8 sc_shares_of.nd) (b3_cons (m3_set 9 (p3_bor (p3 (r3_ix (r3_ix (r3 (p3_add (r3_name 2) (r3 (p3_lst (pa3_cons (p3_move 5) pa3_nil))))) (r3_name 6)) (r3_name 8)))) sc_shares_of.nd)
      (b3_one (m3_set 7 (p3 (r3_fdiv (r3_sub (r3_mul (r3_ix (r3_name 1) (r3_add (r3_name 8) r3_int)) (r3_name 7)) (r3_mul (r3_ix (r3_name 5) (r3_name 8)) (r3_name 9))) (r3_ix (r3_name 1) (r3_name 8)))) sc_shares_of.nd))))
      (b3_one (m3_expr (p3_append 5 (p3_move 7)))))))
      (b3_cons (m3_expr (p3_append 1 (p3 (r3_ix (r3_name 5) (r3_name 3)))))
      (b3_one (m3_expr (p3_append 2 (p3_move 5))))))))
      (b3_one (m3_ret (p3_tup (pa3_cons (p3_move 2) (pa3_cons (p3_move 1) pa3_nil)))))))), v_shares_of⟩)
theorem ok_cut_down {f : Addr} {fd : FuncData} {k : Nat} (F : Fun K "cut_down" "cut_down" s_cut_down f fd) (B_list : mg "list" = none) (B_range : mg "range" = none) (C_shares_of : Cal P w K mg base "shares_of" k ["rows"] sp_shares_of) (C_taken_off : Cal P w K mg base "taken_off" k ["row", "many", "other"] sp_taken_off) : FnOk P w K mg base CX0 (k + 1) f fd ["rows", "at"] (lift K sp_cut_down) :=
  ok3 F sc_cut_down (fun ts Q E h => by first | (obtain ⟨rfl, _⟩ := h; rfl) | (obtain ⟨_, rfl, _⟩ := h; rfl) | (obtain ⟨_, _, rfl, _⟩ := h; rfl) | (obtain ⟨_, _, _, rfl, _⟩ := h; rfl) | (obtain ⟨_, _, _, _, rfl, _⟩ := h; rfl) | (obtain ⟨_, _, _, _, _, rfl, _⟩ := h; rfl) | (obtain ⟨_, _, _, _, _, _, rfl, _⟩ := h; rfl) | (obtain ⟨_, _, _, _, _, _, _, rfl, _⟩ := h; rfl) | (obtain ⟨_, _, _, _, _, _, _, _, rfl, _⟩ := h; rfl) | (obtain ⟨_, _, _, _, _, _, _, _, _, rfl, _⟩ := h; rfl) | (obtain ⟨_, _, _, _, _, _, _, _, _, _, rfl, _⟩ := h; rfl) | (obtain ⟨_, _, _, _, _, _, _, _, _, _, _, rfl, _⟩ := h; rfl) | (obtain ⟨_, _, _, _, _, _, _, _, _, _, _, _, rfl, _⟩ := h; rfl) | (obtain ⟨_, _, _, _, _, _, _, _, _, _, _, _, _, rfl, _⟩ := h; rfl) | (obtain ⟨_, _, _, _, _, _, _, _, _, _, _, _, _, _, rfl, _⟩ := h; rfl) | (obtain ⟨_, _, _, _, _, _, _, _, _, _, _, _, _, _, _, rfl, _⟩ := h; rfl)) (fun cdv A outer s H E hr => ⟨body_cut_down, (b3_cons (m3_set 2 (p3_list (by rfl) B_list (r3_name 0)) sc_cut_down.nd)
      (b3_cons (m3_for PassesOwn.never rfl (i3_range3 (by rfl) B_range (r3_sub (r3_name 1) r3_int) (r3_neg r3_int) (r3_neg r3_int)) (g3_name 3 sc_cut_down.nd) (b3_cons (m3_asg (p3_bor (p3_cal C_shares_of hr (by rfl) (c3_val (r3_name 2) c3_nil))) (g3_tup (n := 2) rfl (gs3_cons (g3_name 4 sc_cut_down.nd) (gs3_cons (g3_name 5 sc_cut_down.nd) gs3_nil))))
      (b3_fz 5 (b3_fz 4 (b3_cons (m3_set 6 (p3 (r3_fdiv (r3_add (r3_mul r3_int (r3_ix (r3_ix (r3_name 4) (r3_name 1)) (r3_name 3))) (r3_ix (r3_name 5) (r3_add (r3_name 3) r3_int))) (r3_mul r3_int (r3_ix (r3_name 5) (r3_add (r3_name 3) r3_int))))) sc_cut_down.nd)
      (b3_one (m3_asg (p3 (r3 (p3_cal C_taken_off hr (by rfl) (c3_val (r3_ix (r3_name 2) (r3_name 1)) (c3_val (r3_name 6) (c3_val (r3_ix (r3_name 2) (r3_name 3)) c3_nil)))))) (g3_sub 2 (r3_name 1)))))))))
      (b3_one (m3_ret (p3_move 2))))), v_cut_down⟩)
theorem ok_stands_behind {f : Addr} {fd : FuncData} {k : Nat} (F : Fun K "stands_behind" "stands_behind" s_stands_behind f fd) (C_shares_of : Cal P w K mg base "shares_of" k ["rows"] sp_shares_of) : FnOk P w K mg base CX0 (k + 1) f fd ["rows", "at"] (lift K sp_stands_behind) :=
  ok3 F sc_stands_behind (fun ts Q E h => by first | (obtain ⟨rfl, _⟩ := h; rfl) | (obtain ⟨_, rfl, _⟩ := h; rfl) | (obtain ⟨_, _, rfl, _⟩ := h; rfl) | (obtain ⟨_, _, _, rfl, _⟩ := h; rfl) | (obtain ⟨_, _, _, _, rfl, _⟩ := h; rfl) | (obtain ⟨_, _, _, _, _, rfl, _⟩ := h; rfl) | (obtain ⟨_, _, _, _, _, _, rfl, _⟩ := h; rfl) | (obtain ⟨_, _, _, _, _, _, _, rfl, _⟩ := h; rfl) | (obtain ⟨_, _, _, _, _, _, _, _, rfl, _⟩ := h; rfl) | (obtain ⟨_, _, _, _, _, _, _, _, _, rfl, _⟩ := h; rfl) | (obtain ⟨_, _, _, _, _, _, _, _, _, _, rfl, _⟩ := h; rfl) | (obtain ⟨_, _, _, _, _, _, _, _, _, _, _, rfl, _⟩ := h; rfl) | (obtain ⟨_, _, _, _, _, _, _, _, _, _, _, _, rfl, _⟩ := h; rfl) | (obtain ⟨_, _, _, _, _, _, _, _, _, _, _, _, _, rfl, _⟩ := h; rfl) | (obtain ⟨_, _, _, _, _, _, _, _, _, _, _, _, _, _, rfl, _⟩ := h; rfl) | (obtain ⟨_, _, _, _, _, _, _, _, _, _, _, _, _, _, _, rfl, _⟩ := h; rfl)) (fun cdv A outer s H E hr => ⟨body_stands_behind, (b3_cons (m3_asg (p3_cal C_shares_of hr (by rfl) (c3_val (r3_name 0) c3_nil)) (g3_tup (n := 2) rfl (gs3_cons (g3_name 2 sc_stands_behind.nd) (gs3_cons (g3_name 3 sc_stands_behind.nd) gs3_nil))))
      (b3_fz 3 (b3_fz 2 (b3_cons (m3_set 4 (p3 (r3_add (r3_mul (r3_ix (r3_name 3) (r3_add (r3_name 1) r3_int)) (r3_ix (r3_name 3) (r3_sub (r3_name 1) r3_int))) (r3_mul (r3_ix (r3_ix (r3_name 2) (r3_name 1)) (r3_sub (r3_name 1) r3_int)) (r3_ix (r3_ix (r3_name 2) (r3_name 1)) (r3_sub (r3_name 1) r3_int))))) sc_stands_behind.nd)
      (b3_one (m3_ret (p3 (r3_ge (r3_mul r3_int (r3_name 4)) (r3_mul (r3_mul r3_int (r3_ix (r3_name 3) (r3_name 1))) (r3_ix (r3_name 3) (r3_name 1))))))))))), v_stands_behind⟩)
theorem ok_reduced {f : Addr} {fd : FuncData} {k : Nat} (F : Fun K "reduced" "reduced" s_reduced f fd) (B_len : mg "len" = none) (B_list : mg "list" = none) (B_max : mg "max" = none) (B_tuple : mg "tuple" = none) (C_cut_down : Cal P w K mg base "cut_down" k ["rows", "at"] sp_cut_down) (C_need_lattice : Cal P w K mg base "need_lattice" k ["rows"] sp_need_lattice) (C_stands_behind : Cal P w K mg base "stands_behind" k ["rows", "at"] sp_stands_behind) : FnOk P w K mg base CX0 (k + 1) f fd ["rows"] (lift K sp_reduced) :=
  ok3 F sc_reduced (fun ts Q E h => by first | (obtain ⟨rfl, _⟩ := h; rfl) | (obtain ⟨_, rfl, _⟩ := h; rfl) | (obtain ⟨_, _, rfl, _⟩ := h; rfl) | (obtain ⟨_, _, _, rfl, _⟩ := h; rfl) | (obtain ⟨_, _, _, _, rfl, _⟩ := h; rfl) | (obtain ⟨_, _, _, _, _, rfl, _⟩ := h; rfl) | (obtain ⟨_, _, _, _, _, _, rfl, _⟩ := h; rfl) | (obtain ⟨_, _, _, _, _, _, _, rfl, _⟩ := h; rfl) | (obtain ⟨_, _, _, _, _, _, _, _, rfl, _⟩ := h; rfl) | (obtain ⟨_, _, _, _, _, _, _, _, _, rfl, _⟩ := h; rfl) | (obtain ⟨_, _, _, _, _, _, _, _, _, _, rfl, _⟩ := h; rfl) | (obtain ⟨_, _, _, _, _, _, _, _, _, _, _, rfl, _⟩ := h; rfl) | (obtain ⟨_, _, _, _, _, _, _, _, _, _, _, _, rfl, _⟩ := h; rfl) | (obtain ⟨_, _, _, _, _, _, _, _, _, _, _, _, _, rfl, _⟩ := h; rfl) | (obtain ⟨_, _, _, _, _, _, _, _, _, _, _, _, _, _, rfl, _⟩ := h; rfl) | (obtain ⟨_, _, _, _, _, _, _, _, _, _, _, _, _, _, _, rfl, _⟩ := h; rfl)) (fun cdv A outer s H E hr => ⟨body_reduced, (b3_cons (m3_expr (p3 (r3 (p3_cal C_need_lattice hr (by rfl) (c3_val (r3_name 0) c3_nil)))))
      (b3_cons (m3_setLc 1 (own := [("row", 3)]) (js := [3]) rfl sc_reduced.nd (i3_seq (r3_name 0)) (blkOk_by (N := N_reduced) (sc := defScope s_reduced) (by decide +kernel)) (by decide) (fun _ _ _ _ _ => (g3_name 3 sc_reduced.nd)) (fun _ _ _ _ _ => ts3_nil) (fun _ _ _ _ _ => (p3 (r3 (p3_list (by rfl) B_list (r3_name 3))))))
      (b3_cons (m3_set 2 (p3 r3_int) sc_reduced.nd)
      (b3_cons (m3_while PassesOwn.never (t3_lt (r3_name 2) (r3_len (by rfl) B_len (r3_name 1))) (b3_cons (m3_set 1 (p3_cal C_cut_down hr (by rfl) (c3_io 1 (c3_val (r3_name 2) c3_nil))) sc_reduced.nd)
      (b3_one (m3_if (t3_bor (t3_val (r3 (p3_cal C_stands_behind hr (by rfl) (c3_val (r3_name 1) (c3_val (r3_name 2) c3_nil)))))) (b3_one (m3_aug 2 iop_add3 r3_int sc_reduced.nd)) (b3_cons (m3_asg (p3_tup (pa3_cons (p3 (r3_ix (r3_name 1) (r3_name 2))) (pa3_cons (p3 (r3_ix (r3_name 1) (r3_sub (r3_name 2) r3_int))) pa3_nil))) (g3_tup (n := 2) rfl (gs3_cons (g3_sub 1 (r3_sub (r3_name 2) r3_int)) (gs3_cons (g3_sub 1 (r3_name 2)) gs3_nil))))
      (b3_one (m3_set 2 (p3 (r3_max2 rfl (by rfl) B_max r3_int (r3_sub (r3_name 2) r3_int))) sc_reduced.nd)))))))
      (b3_one (m3_ret (p3 (r3_tuple (by rfl) B_tuple (r3 (p3_lc (own := [("row", 3)]) (js := [3]) rfl sc_reduced.nd (i3_seq (r3 (p3_move 1))) (blkOk_by (N := N_reduced) (sc := defScope s_reduced) (by decide +kernel)) (by decide) (fun _ _ _ _ _ => (g3_name 3 sc_reduced.nd)) (fun _ _ _ _ _ => ts3_nil) (fun _ _ _ _ _ => (p3 (r3_tuple (by rfl) B_tuple (r3_name 3)))))))))))))), v_reduced⟩)
theorem ok_has_small_shares {f : Addr} {fd : FuncData} {k : Nat} (F : Fun K "has_small_shares" "has_small_shares" s_has_small_shares f fd) (B_abs : mg "abs" = none) (B_enumerate : mg "enumerate" = none) (B_range : mg "range" = none) (C_shares_of : Cal P w K mg base "shares_of" k ["rows"] sp_shares_of) : FnOk P w K mg base CX0 (k + 1) f fd ["rows"] (lift K sp_has_small_shares) :=
  ok3 F sc_has_small_shares (fun ts Q E h => by first | (obtain ⟨rfl, _⟩ := h; rfl) | (obtain ⟨_, rfl, _⟩ := h; rfl) | (obtain ⟨_, _, rfl, _⟩ := h; rfl) | (obtain ⟨_, _, _, rfl, _⟩ := h; rfl) | (obtain ⟨_, _, _, _, rfl, _⟩ := h; rfl) | (obtain ⟨_, _, _, _, _, rfl, _⟩ := h; rfl) | (obtain ⟨_, _, _, _, _, _, rfl, _⟩ := h; rfl) | (obtain ⟨_, _, _, _, _, _, _, rfl, _⟩ := h; rfl) | (obtain ⟨_, _, _, _, _, _, _, _, rfl, _⟩ := h; rfl) | (obtain ⟨_, _, _, _, _, _, _, _, _, rfl, _⟩ := h; rfl) | (obtain ⟨_, _, _, _, _, _, _, _, _, _, rfl, _⟩ := h; rfl) | (obtain ⟨_, _, _, _, _, _, _, _, _, _, _, rfl, _⟩ := h; rfl) | (obtain ⟨_, _, _, _, _, _, _, _, _, _, _, _, rfl, _⟩ := h; rfl) | (obtain ⟨_, _, _, _, _, _, _, _, _, _, _, _, _, rfl, _⟩ := h; rfl) | (obtain ⟨_, _, _, _, _, _, _, _, _, _, _, _, _, _, rfl, _⟩ := h; rfl) | (obtain ⟨_, _, _, _, _, _, _, _, _, _, _, _, _, _, _, rfl, _⟩ := h; rfl)) (fun cdv A outer s H E hr => ⟨body_has_small_shares, (b3_cons (m3_asg (p3_cal C_shares_of hr (by rfl) (c3_val (r3_name 0) c3_nil)) (g3_tup (n := 2) rfl (gs3_cons (g3_name 1 sc_has_small_shares.nd) (gs3_cons (g3_name 2 sc_has_small_shares.nd) gs3_nil))))
      (b3_fz 2 (b3_fz 1 (b3_cons (m3_for PassesOwn.never rfl (i3_enumX (by rfl) B_enumerate (r3_name 1)) (g3_tup (n := 2) rfl (gs3_cons (g3_name 3 sc_has_small_shares.nd) (gs3_cons (g3_name 4 sc_has_small_shares.nd) gs3_nil))) (b3_one (m3_if (t3_ne hr.units (r3 (p3_lc (own := [("place", 5)]) (js := [5]) rfl sc_has_small_shares.nd (i3_range1 (by rfl) B_range (r3_name 3)) (blkOk_by (N := N_has_small_shares) (sc := defScope s_has_small_shares) (by decide +kernel)) (by decide) (fun _ _ _ _ _ => (g3_name 5 sc_has_small_shares.nd)) (fun _ _ _ _ _ => (ts3_one (t3_gt (r3_mul r3_int (r3_abs (by rfl) B_abs (r3_ix (r3_name 4) (r3_name 5)))) (r3_ix (r3_name 2) (r3_add (r3_name 5) r3_int))))) (fun _ _ _ _ _ => (p3_move 5)))) (r3 (p3_lst pa3_nil))) (b3_one (m3_ret (p3 r3_bool))) b3_nil)))
      (b3_one (m3_ret (p3 r3_bool))))))), v_has_small_shares⟩)
theorem ok_same_lattice {f : Addr} {fd : FuncData} {k : Nat} (F : Fun K "same_lattice" "same_lattice" s_same_lattice f fd) (C_is_lattice : Cal P w K mg base "is_lattice" k ["rows"] sp_is_lattice) (C_need_lattice : Cal P w K mg base "need_lattice" k ["rows"] sp_need_lattice) (C_standing : Cal P w K mg base "standing" k ["rows"] sp_standing) : FnOk P w K mg base CX0 (k + 1) f fd ["one", "other"] (lift K sp_same_lattice) :=
  ok3 F sc_same_lattice (fun ts Q E h => by first | (obtain ⟨rfl, _⟩ := h; rfl) | (obtain ⟨_, rfl, _⟩ := h; rfl) | (obtain ⟨_, _, rfl, _⟩ := h; rfl) | (obtain ⟨_, _, _, rfl, _⟩ := h; rfl) | (obtain ⟨_, _, _, _, rfl, _⟩ := h; rfl) | (obtain ⟨_, _, _, _, _, rfl, _⟩ := h; rfl) | (obtain ⟨_, _, _, _, _, _, rfl, _⟩ := h; rfl) | (obtain ⟨_, _, _, _, _, _, _, rfl, _⟩ := h; rfl) | (obtain ⟨_, _, _, _, _, _, _, _, rfl, _⟩ := h; rfl) | (obtain ⟨_, _, _, _, _, _, _, _, _, rfl, _⟩ := h; rfl) | (obtain ⟨_, _, _, _, _, _, _, _, _, _, rfl, _⟩ := h; rfl) | (obtain ⟨_, _, _, _, _, _, _, _, _, _, _, rfl, _⟩ := h; rfl) | (obtain ⟨_, _, _, _, _, _, _, _, _, _, _, _, rfl, _⟩ := h; rfl) | (obtain ⟨_, _, _, _, _, _, _, _, _, _, _, _, _, rfl, _⟩ := h; rfl) | (obtain ⟨_, _, _, _, _, _, _, _, _, _, _, _, _, _, rfl, _⟩ := h; rfl) | (obtain ⟨_, _, _, _, _, _, _, _, _, _, _, _, _, _, _, rfl, _⟩ := h; rfl)) (fun cdv A outer s H E hr => ⟨body_same_lattice, (b3_cons (m3_expr (p3_cal C_need_lattice hr (by rfl) (c3_val (r3_name 0) c3_nil)))
      (b3_one (m3_ret (p3 (r3_and (r3 (p3_cal C_is_lattice hr (by rfl) (c3_val (r3_name 1) c3_nil))) (r3_one (r3_eq hr.units (r3 (p3_cal C_standing hr (by rfl) (c3_val (r3_name 0) c3_nil))) (r3 (p3_cal C_standing hr (by rfl) (c3_val (r3_name 1) c3_nil)))))))))), v_same_lattice⟩)
theorem ok_reduced_shown {f : Addr} {fd : FuncData} {k : Nat} (F : Fun K "reduced_shown" "reduced_shown" s_reduced_shown f fd) (B_len : mg "len" = none) (B_range : mg "range" = none) (C_has_small_shares : Cal P w K mg base "has_small_shares" k ["rows"] sp_has_small_shares) (C_same_lattice : Cal P w K mg base "same_lattice" k ["one", "other"] sp_same_lattice) (C_stands_behind : Cal P w K mg base "stands_behind" k ["rows", "at"] sp_stands_behind) : FnOk P w K mg base CX0 (k + 1) f fd ["rows", "told"] (lift K sp_reduced_shown) :=
  ok3 F sc_reduced_shown (fun ts Q E h => by first | (obtain ⟨rfl, _⟩ := h; rfl) | (obtain ⟨_, rfl, _⟩ := h; rfl) | (obtain ⟨_, _, rfl, _⟩ := h; rfl) | (obtain ⟨_, _, _, rfl, _⟩ := h; rfl) | (obtain ⟨_, _, _, _, rfl, _⟩ := h; rfl) | (obtain ⟨_, _, _, _, _, rfl, _⟩ := h; rfl) | (obtain ⟨_, _, _, _, _, _, rfl, _⟩ := h; rfl) | (obtain ⟨_, _, _, _, _, _, _, rfl, _⟩ := h; rfl) | (obtain ⟨_, _, _, _, _, _, _, _, rfl, _⟩ := h; rfl) | (obtain ⟨_, _, _, _, _, _, _, _, _, rfl, _⟩ := h; rfl) | (obtain ⟨_, _, _, _, _, _, _, _, _, _, rfl, _⟩ := h; rfl) | (obtain ⟨_, _, _, _, _, _, _, _, _, _, _, rfl, _⟩ := h; rfl) | (obtain ⟨_, _, _, _, _, _, _, _, _, _, _, _, rfl, _⟩ := h; rfl) | (obtain ⟨_, _, _, _, _, _, _, _, _, _, _, _, _, rfl, _⟩ := h; rfl) | (obtain ⟨_, _, _, _, _, _, _, _, _, _, _, _, _, _, rfl, _⟩ := h; rfl) | (obtain ⟨_, _, _, _, _, _, _, _, _, _, _, _, _, _, _, rfl, _⟩ := h; rfl)) (fun cdv A outer s H E hr => ⟨body_reduced_shown, (b3_cons (m3_if (t3_w (w3_or (t3_not (t3_val (r3 (p3_cal C_same_lattice hr (by rfl) (c3_val (r3_name 0) (c3_val (r3_name 1) c3_nil)))))) (w3_or1 (t3_not (t3_val (r3 (p3_cal C_has_small_shares hr (by rfl) (c3_val (r3_name 1) c3_nil)))))))) (b3_one (m3_ret (p3 r3_bool))) b3_nil)
      (b3_one (m3_ret (p3 (r3_eq hr.units (r3 (p3_lc (own := [("at", 2)]) (js := [2]) rfl sc_reduced_shown.nd (i3_range2 (by rfl) B_range r3_int (r3_len (by rfl) B_len (r3_name 1))) (blkOk_by (N := N_reduced_shown) (sc := defScope s_reduced_shown) (by decide +kernel)) (by decide) (fun _ _ _ _ _ => (g3_name 2 sc_reduced_shown.nd)) (fun _ _ _ _ _ => (ts3_one (t3_not (t3_val (r3 (p3_cal C_stands_behind hr (by rfl) (c3_val (r3_name 1) (c3_val (r3_name 2) c3_nil)))))))) (fun _ _ _ _ _ => (p3_move 2)))) (r3 (p3_lst pa3_nil))))))), v_reduced_shown⟩)
theorem ok_law_seen_right {f : Addr} {fd : FuncData} {k : Nat} (F : Fun K "_law_seen_right" "_law_seen_right" s_law_seen_right f fd) (B_len : mg "len" = none) (B_sum : mg "sum" = none) (C_law_by : Cal P w K mg base "_law_by" k ["_law_rows_here", "_law_factor"] sp_law_by) (C_law_power : Cal P w K mg base "_law_power" k ["_law_one", "_law_many"] sp_law_power) (C_has_row : Cal P w K mg base "has_row" k ["rows", "row"] sp_has_row) (C_measure : Cal P w K mg base "measure" k ["rows"] sp_measure) (C_reduced : Cal P w K mg base "reduced" k ["rows"] sp_reduced) (C_reduced_shown : Cal P w K mg base "reduced_shown" k ["rows", "told"] sp_reduced_shown) (C_same_lattice : Cal P w K mg base "same_lattice" k ["one", "other"] sp_same_lattice) (C_standing : Cal P w K mg base "standing" k ["rows"] sp_standing) : FnOk P w K mg base CX0 (k + 1) f fd ["_law_rows_here"] (lift K sp_law_seen_right) :=
  ok3 F sc_law_seen_right (fun ts Q E h => by first | (obtain ⟨rfl, _⟩ := h; rfl) | (obtain ⟨_, rfl, _⟩ := h; rfl) | (obtain ⟨_, _, rfl, _⟩ := h; rfl) | (obtain ⟨_, _, _, rfl, _⟩ := h; rfl) | (obtain ⟨_, _, _, _, rfl, _⟩ := h; rfl) | (obtain ⟨_, _, _, _, _, rfl, _⟩ := h; rfl) | (obtain ⟨_, _, _, _, _, _, rfl, _⟩ := h; rfl) | (obtain ⟨_, _, _, _, _, _, _, rfl, _⟩ := h; rfl) | (obtain ⟨_, _, _, _, _, _, _, _, rfl, _⟩ := h; rfl) | (obtain ⟨_, _, _, _, _, _, _, _, _, rfl, _⟩ := h; rfl) | (obtain ⟨_, _, _, _, _, _, _, _, _, _, rfl, _⟩ := h; rfl) | (obtain ⟨_, _, _, _, _, _, _, _, _, _, _, rfl, _⟩ := h; rfl) | (obtain ⟨_, _, _, _, _, _, _, _, _, _, _, _, rfl, _⟩ := h; rfl) | (obtain ⟨_, _, _, _, _, _, _, _, _, _, _, _, _, rfl, _⟩ := h; rfl) | (obtain ⟨_, _, _, _, _, _, _, _, _, _, _, _, _, _, rfl, _⟩ := h; rfl) | (obtain ⟨_, _, _, _, _, _, _, _, _, _, _, _, _, _, _, rfl, _⟩ := h; rfl)) (fun cdv A outer s H E hr => ⟨body_law_seen_right, (b3_cons (m3_set 1 (p3_cal C_standing hr (by rfl) (c3_val (r3_name 0) c3_nil)) sc_law_seen_right.nd)
      (b3_cons (m3_set 2 (p3_cal C_reduced hr (by rfl) (c3_val (r3_name 0) c3_nil)) sc_law_seen_right.nd)
      (b3_cons (m3_for PassesOwn.never rfl (i3_seq (r3 (p3_tup (pa3_cons (p3_move 0) (pa3_cons (p3_move 1) (pa3_cons (p3_move 2) (pa3_cons (p3_revT (r3_name 0)) pa3_nil))))))) (g3_name 3 sc_law_seen_right.nd) (b3_cons (m3_if (t3_w (w3_or (t3_ne hr.units (r3 (p3_cal C_standing hr (by rfl) (c3_val (r3_name 3) c3_nil))) (r3_name 1)) (w3_or (t3_ne hr.units (r3 (p3_cal C_measure hr (by rfl) (c3_val (r3_name 3) c3_nil))) (r3 (p3_cal C_measure hr (by rfl) (c3_val (r3_name 0) c3_nil)))) (w3_or1 (t3_not (t3_val (r3 (p3_cal C_same_lattice hr (by rfl) (c3_val (r3_name 3) (c3_val (r3_name 2) c3_nil)))))))))) (b3_one (m3_ret (p3 r3_bool))) b3_nil)
      (b3_one (m3_if (t3_w (w3_or (t3_not (t3_val (r3 (p3_cal C_reduced_shown hr (by rfl) (c3_val (r3_name 3) (c3_val (r3_name 2) c3_nil)))))) (w3_or1 (t3_ne hr.units (r3 (p3_lc (own := [("_law_row", 7)]) (js := [7]) rfl sc_law_seen_right.nd (i3_seq (r3_name 0)) (blkOk_by (N := N_law_seen_right) (sc := defScope s_law_seen_right) (by decide +kernel)) (by decide) (fun _ _ _ _ _ => (g3_name 7 sc_law_seen_right.nd)) (fun _ _ _ _ _ => (ts3_one (t3_not (t3_val (r3 (p3_cal C_has_row hr (by rfl) (c3_val (r3_name 3) (c3_val (r3_name 7) c3_nil)))))))) (fun _ _ _ _ _ => (p3_move 7)))) (r3 (p3_lst pa3_nil)))))) (b3_one (m3_ret (p3 r3_bool))) b3_nil))))
      (b3_cons (m3_if (t3_not (t3_val (r3 (p3_cal C_reduced_shown hr (by rfl) (c3_val (r3_name 0) (c3_val (r3 (p3_cal C_law_by hr (by rfl) (c3_val (r3_name 2) (c3_val (r3_neg r3_int) c3_nil)))) c3_nil)))))) (b3_one (m3_ret (p3 r3_bool))) b3_nil)
      (b3_cons (m3_set 4 (p3 (r3_len (by rfl) B_len (r3_name 0))) sc_law_seen_right.nd)
      (b3_cons (m3_set 5 (p3 (r3_sum rfl (by rfl) B_sum (r3 (p3_lc (own := [("_law_number_here", 6)]) (js := [6]) rfl sc_law_seen_right.nd (i3_seq (r3_ix (r3_name 2) r3_int)) (blkOk_by (N := N_law_seen_right) (sc := defScope s_law_seen_right) (by decide +kernel)) (by decide) (fun _ _ _ _ _ => (g3_name 6 sc_law_seen_right.nd)) (fun _ _ _ _ _ => ts3_nil) (fun _ _ _ _ _ => (p3 (r3_mul (r3_name 6) (r3_name 6)))))))) sc_law_seen_right.nd)
      (b3_one (m3_ret (p3 (r3_le (r3 (p3_cal C_law_power hr (by rfl) (c3_val (r3_name 5) (c3_val (r3_name 4) c3_nil)))) (r3_mul (r3_mul (r3 (p3_cal C_law_power hr (by rfl) (c3_val r3_int (c3_val (r3_fdiv (r3_mul (r3_name 4) (r3_sub (r3_name 4) r3_int)) r3_int) c3_nil)))) (r3 (p3_cal C_measure hr (by rfl) (c3_val (r3_name 0) c3_nil)))) (r3 (p3_cal C_measure hr (by rfl) (c3_val (r3_name 0) c3_nil)))))))))))))), v_law_seen_right⟩)
theorem ok_law_19 {f : Addr} {fd : FuncData} {k : Nat} (F : Fun K "law" "law" s_law_19 f fd) (B_len : mg "len" = none) (B_tuple : mg "tuple" = none) (C_law_by : Cal P w K mg base "_law_by" k ["_law_rows_here", "_law_factor"] sp_law_by) (C_law_determinant : Cal P w K mg base "_law_determinant" k ["_law_rows_here"] (sp_law_determinant 8)) (C_law_number_1 : Cal P w K mg base "_law_number" k ["_law_script", "_law_k"] sp_law_number_1) (C_law_power : Cal P w K mg base "_law_power" k ["_law_one", "_law_many"] sp_law_power) (C_law_rows_2 : Cal P w K mg base "_law_rows" k ["_law_script", "_law_start", "_law_wide"] sp_law_rows_2) (C_law_seen_right : Cal P w K mg base "_law_seen_right" k ["_law_rows_here"] sp_law_seen_right) (C_has_row : Cal P w K mg base "has_row" k ["rows", "row"] sp_has_row) (C_measure : Cal P w K mg base "measure" k ["rows"] sp_measure) (C_same_lattice : Cal P w K mg base "same_lattice" k ["one", "other"] sp_same_lattice) (C_standing : Cal P w K mg base "standing" k ["rows"] sp_standing) : FnOk P w K mg base CX0 (k + 1) f fd ["_law_script"] (lift K spLaw) :=
  ok3 F sc_law_19 (fun ts Q E h => by first | (obtain ⟨rfl, _⟩ := h; rfl) | (obtain ⟨_, rfl, _⟩ := h; rfl) | (obtain ⟨_, _, rfl, _⟩ := h; rfl) | (obtain ⟨_, _, _, rfl, _⟩ := h; rfl) | (obtain ⟨_, _, _, _, rfl, _⟩ := h; rfl) | (obtain ⟨_, _, _, _, _, rfl, _⟩ := h; rfl) | (obtain ⟨_, _, _, _, _, _, rfl, _⟩ := h; rfl) | (obtain ⟨_, _, _, _, _, _, _, rfl, _⟩ := h; rfl) | (obtain ⟨_, _, _, _, _, _, _, _, rfl, _⟩ := h; rfl) | (obtain ⟨_, _, _, _, _, _, _, _, _, rfl, _⟩ := h; rfl) | (obtain ⟨_, _, _, _, _, _, _, _, _, _, rfl, _⟩ := h; rfl) | (obtain ⟨_, _, _, _, _, _, _, _, _, _, _, rfl, _⟩ := h; rfl) | (obtain ⟨_, _, _, _, _, _, _, _, _, _, _, _, rfl, _⟩ := h; rfl) | (obtain ⟨_, _, _, _, _, _, _, _, _, _, _, _, _, rfl, _⟩ := h; rfl) | (obtain ⟨_, _, _, _, _, _, _, _, _, _, _, _, _, _, rfl, _⟩ := h; rfl) | (obtain ⟨_, _, _, _, _, _, _, _, _, _, _, _, _, _, _, rfl, _⟩ := h; rfl)) (fun cdv A outer s H E hr => ⟨body_law_19, (b3_cons (m3_set 1 (p3_cal C_law_rows_2 hr (by rfl) (c3_val (r3_name 0) (c3_val r3_int (c3_val r3_int c3_nil)))) sc_law_19.nd)
      (b3_cons (m3_if (t3_eqI (r3 (p3_cal C_law_determinant hr (by rfl) (c3_val (r3_name 1) c3_nil))) r3_int) (b3_one (m3_ret (p3 r3_bool))) b3_nil)
      (b3_cons (m3_if (t3_not (t3_val (r3 (p3_cal C_law_seen_right hr (by rfl) (c3_val (r3_name 1) c3_nil))))) (b3_one (m3_ret (p3 r3_bool))) b3_nil)
      (b3_cons (m3_set 2 (p3_cal C_law_number_1 hr (by rfl) (c3_val (r3_name 0) (c3_val r3_int c3_nil))) sc_law_19.nd)
      (b3_cons (m3_set 3 (p3 (r3_add r3_int (r3_mod (r3_name 2) r3_int))) sc_law_19.nd)
      (b3_cons (m3_if (t3_ne hr.units (r3 (p3_cal C_standing hr (by rfl) (c3_val (r3 (p3_cal C_law_by hr (by rfl) (c3_val (r3_name 1) (c3_val (r3_name 3) c3_nil)))) c3_nil))) (r3 (p3_cal C_law_by hr (by rfl) (c3_val (r3 (p3_cal C_standing hr (by rfl) (c3_val (r3_name 1) c3_nil))) (c3_val (r3_name 3) c3_nil))))) (b3_one (m3_ret (p3 r3_bool))) b3_nil)
      (b3_cons (m3_if (t3_neI (r3 (p3_cal C_measure hr (by rfl) (c3_val (r3 (p3_cal C_law_by hr (by rfl) (c3_val (r3_name 1) (c3_val (r3_name 3) c3_nil)))) c3_nil))) (r3_mul (r3 (p3_cal C_measure hr (by rfl) (c3_val (r3_name 1) c3_nil))) (r3 (p3_cal C_law_power hr (by rfl) (c3_val (r3_name 3) (c3_val (r3_len (by rfl) B_len (r3_name 1)) c3_nil)))))) (b3_one (m3_ret (p3 r3_bool))) b3_nil)
      (b3_cons (m3_set 4 (p3 (r3_mod (r3_fdiv (r3_name 2) r3_int) (r3_len (by rfl) B_len (r3_name 1)))) sc_law_19.nd)
      (b3_cons (m3_set 5 (p3_add (r3 (p3_add (r3 (p3_sl (r3_name 1) po3_none (po3_some (r3_name 4)))) (r3 (p3_cal C_law_by hr (by rfl) (c3_val (r3 (p3_tup (pa3_cons (p3 (r3_ix (r3_name 1) (r3_name 4))) pa3_nil))) (c3_val r3_int c3_nil)))))) (r3 (p3_sl (r3_name 1) (po3_some (r3_add (r3_name 4) r3_int)) po3_none))) sc_law_19.nd)
      (b3_cons (m3_if (t3_w (w3_or (t3_val (r3 (p3_cal C_same_lattice hr (by rfl) (c3_val (r3_name 1) (c3_val (r3_name 5) c3_nil))))) (w3_or (t3_not (t3_val (r3 (p3_cal C_has_row hr (by rfl) (c3_val (r3_name 1) (c3_val (r3_ix (r3_name 5) (r3_name 4)) c3_nil)))))) (w3_or1 (t3_val (r3 (p3_cal C_has_row hr (by rfl) (c3_val (r3_name 5) (c3_val (r3_ix (r3_name 1) (r3_name 4)) c3_nil))))))))) (b3_one (m3_ret (p3 r3_bool))) b3_nil)
      (b3_cons (m3_set 6 (p3 (r3_tuple (by rfl) B_tuple (r3 (p3_lc (own := [("_law_row", 7)]) (js := [7]) rfl sc_law_19.nd (i3_seq (r3_name 1)) (blkOk_by (N := N_law_19) (sc := defScope s_law_19) (by decide +kernel)) (by decide) (fun _ _ _ _ _ => (g3_name 7 sc_law_19.nd)) (fun _ _ _ _ _ => ts3_nil) (fun _ _ _ _ _ => (p3_add (r3 (p3_sl (r3_name 7) (po3_some (r3_name 4)) po3_none)) (r3 (p3_sl (r3_name 7) po3_none (po3_some (r3_name 4)))))))))) sc_law_19.nd)
      (b3_one (m3_ret (p3 (r3_and (r3_eq hr.units (r3 (p3_cal C_measure hr (by rfl) (c3_val (r3_name 6) c3_nil))) (r3 (p3_cal C_measure hr (by rfl) (c3_val (r3_name 1) c3_nil)))) (r3_one (r3_eqI (r3 (p3_cal C_measure hr (by rfl) (c3_val (r3_name 5) c3_nil))) (r3_mul r3_int (r3 (p3_cal C_measure hr (by rfl) (c3_val (r3_name 1) c3_nil))))))))))))))))))))), v_law_19⟩)
end
theorem all_mk {l : PySem.W.OpenLaw} {w : World} {K : PySem.W.Frag} {h : Heap} {mg : Str → Option Value} {fa f0 f1 f2 f3 f4 f5 f6 f7 f8 f9 f10 f11 f12 f13 f14 f15 f16 f17 f18 f19 f20 f21 f22 f23 f24 : Addr} (X : K.In h) (G : h.Ns mainGlobals mg) (hfa : mg "law" = some (.ref fa))
    {od0 an0 od1 an1 od2 an2 od3 an3 od4 an4 od5 an5 od6 an6 od7 an7 od8 an8 od9 an9 od10 an10 od11 an11 od12 an12 od13 an13 od14 an14 od15 an15 od16 an16 od17 an17 od18 an18 od19 an19 od20 an20 od21 an21 od22 an22 od23 an23 od24 an24 : Option Addr} {sl0 sl1 sl2 sl3 sl4 sl5 sl6 sl7 sl8 sl9 sl10 sl11 sl12 sl13 sl14 sl15 sl16 sl17 sl18 sl19 sl20 sl21 sl22 sl23 sl24 : Array (Option Value)} {oc0 kV0 dc0 pm0 cd0 ct0 oc1 kV1 dc1 pm1 cd1 ct1 oc2 kV2 dc2 pm2 cd2 ct2 oc3 kV3 dc3 pm3 cd3 ct3 oc4 kV4 dc4 pm4 cd4 ct4 oc5 kV5 dc5 pm5 cd5 ct5 oc6 kV6 dc6 pm6 cd6 ct6 oc7 kV7 dc7 pm7 cd7 ct7 oc8 kV8 dc8 pm8 cd8 ct8 oc9 kV9 dc9 pm9 cd9 ct9 oc10 kV10 dc10 pm10 cd10 ct10 oc11 kV11 dc11 pm11 cd11 ct11 oc12 kV12 dc12 pm12 cd12 ct12 oc13 kV13 dc13 pm13 cd13 ct13 oc14 kV14 dc14 pm14 cd14 ct14 oc15 kV15 dc15 pm15 cd15 ct15 oc16 kV16 dc16 pm16 cd16 ct16 oc17 kV17 dc17 pm17 cd17 ct17 oc18 kV18 dc18 pm18 cd18 ct18 oc19 kV19 dc19 pm19 cd19 ct19 oc20 kV20 dc20 pm20 cd20 ct20 oc21 kV21 dc21 pm21 cd21 ct21 oc22 kV22 dc22 pm22 cd22 ct22 oc23 kV23 dc23 pm23 cd23 ct23 oc24 kV24 dc24 pm24 cd24 ct24 : Value}
    (a0 : PySem.W.nsIn K mainGlobals "_law_by" = some (some (.ref f0))) (l0 : K.lookup f0 = some ⟨oc0, od0, .func (PySem.W.fnOf "_law_by" "_law_by" (defArgs s_law_by) (defBody s_law_by) (defScope s_law_by) .none kV0 dc0 pm0 an0 cd0 ct0), sl0⟩) (c0 : PySem.W.codeIn K cd0 "_law_by" = true) (k0 : PySem.W.keepIn K (.ref f0) = true)
    (a1 : PySem.W.nsIn K mainGlobals "_law_determinant" = some (some (.ref f1))) (l1 : K.lookup f1 = some ⟨oc1, od1, .func (PySem.W.fnOf "_law_determinant" "_law_determinant" (defArgs s_law_determinant) (defBody s_law_determinant) (defScope s_law_determinant) .none kV1 dc1 pm1 an1 cd1 ct1), sl1⟩) (c1 : PySem.W.codeIn K cd1 "_law_determinant" = true) (k1 : PySem.W.keepIn K (.ref f1) = true)
    (a2 : PySem.W.nsIn K mainGlobals "_law_number" = some (some (.ref f2))) (l2 : K.lookup f2 = some ⟨oc2, od2, .func (PySem.W.fnOf "_law_number" "_law_number" (defArgs s_law_number_1) (defBody s_law_number_1) (defScope s_law_number_1) .none kV2 dc2 pm2 an2 cd2 ct2), sl2⟩) (c2 : PySem.W.codeIn K cd2 "_law_number" = true) (k2 : PySem.W.keepIn K (.ref f2) = true)
    (a3 : PySem.W.nsIn K mainGlobals "_law_power" = some (some (.ref f3))) (l3 : K.lookup f3 = some ⟨oc3, od3, .func (PySem.W.fnOf "_law_power" "_law_power" (defArgs s_law_power) (defBody s_law_power) (defScope s_law_power) .none kV3 dc3 pm3 an3 cd3 ct3), sl3⟩) (c3 : PySem.W.codeIn K cd3 "_law_power" = true) (k3 : PySem.W.keepIn K (.ref f3) = true)
    (a4 : PySem.W.nsIn K mainGlobals "_law_great" = some (some (.ref f4))) (l4 : K.lookup f4 = some ⟨oc4, od4, .func (PySem.W.fnOf "_law_great" "_law_great" (defArgs s_law_great_1) (defBody s_law_great_1) (defScope s_law_great_1) .none kV4 dc4 pm4 an4 cd4 ct4), sl4⟩) (c4 : PySem.W.codeIn K cd4 "_law_great" = true) (k4 : PySem.W.keepIn K (.ref f4) = true)
    (a5 : PySem.W.nsIn K mainGlobals "_law_rows" = some (some (.ref f5))) (l5 : K.lookup f5 = some ⟨oc5, od5, .func (PySem.W.fnOf "_law_rows" "_law_rows" (defArgs s_law_rows_2) (defBody s_law_rows_2) (defScope s_law_rows_2) .none kV5 dc5 pm5 an5 cd5 ct5), sl5⟩) (c5 : PySem.W.codeIn K cd5 "_law_rows" = true) (k5 : PySem.W.keepIn K (.ref f5) = true)
    (a6 : PySem.W.nsIn K mainGlobals "is_square" = some (some (.ref f6))) (l6 : K.lookup f6 = some ⟨oc6, od6, .func (PySem.W.fnOf "is_square" "is_square" (defArgs s_is_square) (defBody s_is_square) (defScope s_is_square) .none kV6 dc6 pm6 an6 cd6 ct6), sl6⟩) (c6 : PySem.W.codeIn K cd6 "is_square" = true) (k6 : PySem.W.keepIn K (.ref f6) = true)
    (a7 : PySem.W.nsIn K mainGlobals "taken_off" = some (some (.ref f7))) (l7 : K.lookup f7 = some ⟨oc7, od7, .func (PySem.W.fnOf "taken_off" "taken_off" (defArgs s_taken_off) (defBody s_taken_off) (defScope s_taken_off) .none kV7 dc7 pm7 an7 cd7 ct7), sl7⟩) (c7 : PySem.W.codeIn K cd7 "taken_off" = true) (k7 : PySem.W.keepIn K (.ref f7) = true)
    (a8 : PySem.W.nsIn K mainGlobals "stepped" = some (some (.ref f8))) (l8 : K.lookup f8 = some ⟨oc8, od8, .func (PySem.W.fnOf "stepped" "stepped" (defArgs s_stepped) (defBody s_stepped) (defScope s_stepped) .none kV8 dc8 pm8 an8 cd8 ct8), sl8⟩) (c8 : PySem.W.codeIn K cd8 "stepped" = true) (k8 : PySem.W.keepIn K (.ref f8) = true)
    (a9 : PySem.W.nsIn K mainGlobals "measure_of" = some (some (.ref f9))) (l9 : K.lookup f9 = some ⟨oc9, od9, .func (PySem.W.fnOf "measure_of" "measure_of" (defArgs s_measure_of) (defBody s_measure_of) (defScope s_measure_of) .none kV9 dc9 pm9 an9 cd9 ct9), sl9⟩) (c9 : PySem.W.codeIn K cd9 "measure_of" = true) (k9 : PySem.W.keepIn K (.ref f9) = true)
    (a10 : PySem.W.nsIn K mainGlobals "is_lattice" = some (some (.ref f10))) (l10 : K.lookup f10 = some ⟨oc10, od10, .func (PySem.W.fnOf "is_lattice" "is_lattice" (defArgs s_is_lattice) (defBody s_is_lattice) (defScope s_is_lattice) .none kV10 dc10 pm10 an10 cd10 ct10), sl10⟩) (c10 : PySem.W.codeIn K cd10 "is_lattice" = true) (k10 : PySem.W.keepIn K (.ref f10) = true)
    (a11 : PySem.W.nsIn K mainGlobals "need_lattice" = some (some (.ref f11))) (l11 : K.lookup f11 = some ⟨oc11, od11, .func (PySem.W.fnOf "need_lattice" "need_lattice" (defArgs s_need_lattice) (defBody s_need_lattice) (defScope s_need_lattice) .none kV11 dc11 pm11 an11 cd11 ct11), sl11⟩) (c11 : PySem.W.codeIn K cd11 "need_lattice" = true) (k11 : PySem.W.keepIn K (.ref f11) = true)
    (a12 : PySem.W.nsIn K mainGlobals "standing" = some (some (.ref f12))) (l12 : K.lookup f12 = some ⟨oc12, od12, .func (PySem.W.fnOf "standing" "standing" (defArgs s_standing) (defBody s_standing) (defScope s_standing) .none kV12 dc12 pm12 an12 cd12 ct12), sl12⟩) (c12 : PySem.W.codeIn K cd12 "standing" = true) (k12 : PySem.W.keepIn K (.ref f12) = true)
    (a13 : PySem.W.nsIn K mainGlobals "has_row" = some (some (.ref f13))) (l13 : K.lookup f13 = some ⟨oc13, od13, .func (PySem.W.fnOf "has_row" "has_row" (defArgs s_has_row) (defBody s_has_row) (defScope s_has_row) .none kV13 dc13 pm13 an13 cd13 ct13), sl13⟩) (c13 : PySem.W.codeIn K cd13 "has_row" = true) (k13 : PySem.W.keepIn K (.ref f13) = true)
    (a14 : PySem.W.nsIn K mainGlobals "measure" = some (some (.ref f14))) (l14 : K.lookup f14 = some ⟨oc14, od14, .func (PySem.W.fnOf "measure" "measure" (defArgs s_measure) (defBody s_measure) (defScope s_measure) .none kV14 dc14 pm14 an14 cd14 ct14), sl14⟩) (c14 : PySem.W.codeIn K cd14 "measure" = true) (k14 : PySem.W.keepIn K (.ref f14) = true)
    (a15 : PySem.W.nsIn K mainGlobals "product_of" = some (some (.ref f15))) (l15 : K.lookup f15 = some ⟨oc15, od15, .func (PySem.W.fnOf "product_of" "product_of" (defArgs s_product_of) (defBody s_product_of) (defScope s_product_of) .none kV15 dc15 pm15 an15 cd15 ct15), sl15⟩) (c15 : PySem.W.codeIn K cd15 "product_of" = true) (k15 : PySem.W.keepIn K (.ref f15) = true)
    (a16 : PySem.W.nsIn K mainGlobals "shares_of" = some (some (.ref f16))) (l16 : K.lookup f16 = some ⟨oc16, od16, .func (PySem.W.fnOf "shares_of" "shares_of" (defArgs s_shares_of) (defBody s_shares_of) (defScope s_shares_of) .none kV16 dc16 pm16 an16 cd16 ct16), sl16⟩) (c16 : PySem.W.codeIn K cd16 "shares_of" = true) (k16 : PySem.W.keepIn K (.ref f16) = true)
    (a17 : PySem.W.nsIn K mainGlobals "cut_down" = some (some (.ref f17))) (l17 : K.lookup f17 = some ⟨oc17, od17, .func (PySem.W.fnOf "cut_down" "cut_down" (defArgs s_cut_down) (defBody s_cut_down) (defScope s_cut_down) .none kV17 dc17 pm17 an17 cd17 ct17), sl17⟩) (c17 : PySem.W.codeIn K cd17 "cut_down" = true) (k17 : PySem.W.keepIn K (.ref f17) = true)
    (a18 : PySem.W.nsIn K mainGlobals "stands_behind" = some (some (.ref f18))) (l18 : K.lookup f18 = some ⟨oc18, od18, .func (PySem.W.fnOf "stands_behind" "stands_behind" (defArgs s_stands_behind) (defBody s_stands_behind) (defScope s_stands_behind) .none kV18 dc18 pm18 an18 cd18 ct18), sl18⟩) (c18 : PySem.W.codeIn K cd18 "stands_behind" = true) (k18 : PySem.W.keepIn K (.ref f18) = true)
    (a19 : PySem.W.nsIn K mainGlobals "reduced" = some (some (.ref f19))) (l19 : K.lookup f19 = some ⟨oc19, od19, .func (PySem.W.fnOf "reduced" "reduced" (defArgs s_reduced) (defBody s_reduced) (defScope s_reduced) .none kV19 dc19 pm19 an19 cd19 ct19), sl19⟩) (c19 : PySem.W.codeIn K cd19 "reduced" = true) (k19 : PySem.W.keepIn K (.ref f19) = true)
    (a20 : PySem.W.nsIn K mainGlobals "has_small_shares" = some (some (.ref f20))) (l20 : K.lookup f20 = some ⟨oc20, od20, .func (PySem.W.fnOf "has_small_shares" "has_small_shares" (defArgs s_has_small_shares) (defBody s_has_small_shares) (defScope s_has_small_shares) .none kV20 dc20 pm20 an20 cd20 ct20), sl20⟩) (c20 : PySem.W.codeIn K cd20 "has_small_shares" = true) (k20 : PySem.W.keepIn K (.ref f20) = true)
    (a21 : PySem.W.nsIn K mainGlobals "same_lattice" = some (some (.ref f21))) (l21 : K.lookup f21 = some ⟨oc21, od21, .func (PySem.W.fnOf "same_lattice" "same_lattice" (defArgs s_same_lattice) (defBody s_same_lattice) (defScope s_same_lattice) .none kV21 dc21 pm21 an21 cd21 ct21), sl21⟩) (c21 : PySem.W.codeIn K cd21 "same_lattice" = true) (k21 : PySem.W.keepIn K (.ref f21) = true)
    (a22 : PySem.W.nsIn K mainGlobals "reduced_shown" = some (some (.ref f22))) (l22 : K.lookup f22 = some ⟨oc22, od22, .func (PySem.W.fnOf "reduced_shown" "reduced_shown" (defArgs s_reduced_shown) (defBody s_reduced_shown) (defScope s_reduced_shown) .none kV22 dc22 pm22 an22 cd22 ct22), sl22⟩) (c22 : PySem.W.codeIn K cd22 "reduced_shown" = true) (k22 : PySem.W.keepIn K (.ref f22) = true)
    (a23 : PySem.W.nsIn K mainGlobals "_law_seen_right" = some (some (.ref f23))) (l23 : K.lookup f23 = some ⟨oc23, od23, .func (PySem.W.fnOf "_law_seen_right" "_law_seen_right" (defArgs s_law_seen_right) (defBody s_law_seen_right) (defScope s_law_seen_right) .none kV23 dc23 pm23 an23 cd23 ct23), sl23⟩) (c23 : PySem.W.codeIn K cd23 "_law_seen_right" = true) (k23 : PySem.W.keepIn K (.ref f23) = true)
    (a24 : PySem.W.nsIn K mainGlobals "law" = some (some (.ref f24))) (l24 : K.lookup f24 = some ⟨oc24, od24, .func (PySem.W.fnOf "law" "law" (defArgs s_law_19) (defBody s_law_19) (defScope s_law_19) .none kV24 dc24 pm24 an24 cd24 ct24), sl24⟩) (c24 : PySem.W.codeIn K cd24 "law" = true) (k24 : PySem.W.keepIn K (.ref f24) = true)
    (z_abs : PySem.W.nsIn K mainGlobals "abs" = some none)
    (z_enumerate : PySem.W.nsIn K mainGlobals "enumerate" = some none)
    (z_int : PySem.W.nsIn K mainGlobals "int" = some none)
    (z_len : PySem.W.nsIn K mainGlobals "len" = some none)
    (z_list : PySem.W.nsIn K mainGlobals "list" = some none)
    (z_max : PySem.W.nsIn K mainGlobals "max" = some none)
    (z_min : PySem.W.nsIn K mainGlobals "min" = some none)
    (z_range : PySem.W.nsIn K mainGlobals "range" = some none)
    (z_sum : PySem.W.nsIn K mainGlobals "sum" = some none)
    (z_tuple : PySem.W.nsIn K mainGlobals "tuple" = some none)
    (z_zip : PySem.W.nsIn K mainGlobals "zip" = some none) :
    ∃ fd : FuncData, (∀ (s : Shared) (v : Value), BindsTo s fd ⟨[v], []⟩ [("_law_script", v)]) ∧ ∀ base : Heap, K.In base → base.Ns mainGlobals mg → FnOk l.prog w K mg base CX0 10 fa fd ["_law_script"] (lift K spLaw) := by
  have e := hfa.symm.trans (PySem.W.mg_of X G a24)
  cases e
  have F0 := fun_mk (st := s_law_by) l0 c0 k0
  have F1 := fun_mk (st := s_law_determinant) l1 c1 k1
  have F2 := fun_mk (st := s_law_number_1) l2 c2 k2
  have F3 := fun_mk (st := s_law_power) l3 c3 k3
  have F4 := fun_mk (st := s_law_great_1) l4 c4 k4
  have F5 := fun_mk (st := s_law_rows_2) l5 c5 k5
  have F6 := fun_mk (st := s_is_square) l6 c6 k6
  have F7 := fun_mk (st := s_taken_off) l7 c7 k7
  have F8 := fun_mk (st := s_stepped) l8 c8 k8
  have F9 := fun_mk (st := s_measure_of) l9 c9 k9
  have F10 := fun_mk (st := s_is_lattice) l10 c10 k10
  have F11 := fun_mk (st := s_need_lattice) l11 c11 k11
  have F12 := fun_mk (st := s_standing) l12 c12 k12
  have F13 := fun_mk (st := s_has_row) l13 c13 k13
  have F14 := fun_mk (st := s_measure) l14 c14 k14
  have F15 := fun_mk (st := s_product_of) l15 c15 k15
  have F16 := fun_mk (st := s_shares_of) l16 c16 k16
  have F17 := fun_mk (st := s_cut_down) l17 c17 k17
  have F18 := fun_mk (st := s_stands_behind) l18 c18 k18
  have F19 := fun_mk (st := s_reduced) l19 c19 k19
  have F20 := fun_mk (st := s_has_small_shares) l20 c20 k20
  have F21 := fun_mk (st := s_same_lattice) l21 c21 k21
  have F22 := fun_mk (st := s_reduced_shown) l22 c22 k22
  have F23 := fun_mk (st := s_law_seen_right) l23 c23 k23
  have F24 := fun_mk (st := s_law_19) l24 c24 k24
  have b0 := F0.binds (ps := ["_law_rows_here", "_law_factor"]) fun _ _ _ _ _ _ us hl => match us, hl with | [_, _], _ => rfl
  have m0 := PySem.W.mg_of X G a0
  have b1 := F1.binds (ps := ["_law_rows_here"]) fun _ _ _ _ _ _ us hl => match us, hl with | [_], _ => rfl
  have m1 := PySem.W.mg_of X G a1
  have b2 := F2.binds (ps := ["_law_script", "_law_k"]) fun _ _ _ _ _ _ us hl => match us, hl with | [_, _], _ => rfl
  have m2 := PySem.W.mg_of X G a2
  have b3 := F3.binds (ps := ["_law_one", "_law_many"]) fun _ _ _ _ _ _ us hl => match us, hl with | [_, _], _ => rfl
  have m3 := PySem.W.mg_of X G a3
  have b4 := F4.binds (ps := ["_law_script", "_law_k", "_law_groups"]) fun _ _ _ _ _ _ us hl => match us, hl with | [_, _, _], _ => rfl
  have m4 := PySem.W.mg_of X G a4
  have b5 := F5.binds (ps := ["_law_script", "_law_start", "_law_wide"]) fun _ _ _ _ _ _ us hl => match us, hl with | [_, _, _], _ => rfl
  have m5 := PySem.W.mg_of X G a5
  have b6 := F6.binds (ps := ["rows"]) fun _ _ _ _ _ _ us hl => match us, hl with | [_], _ => rfl
  have m6 := PySem.W.mg_of X G a6
  have b7 := F7.binds (ps := ["row", "many", "other"]) fun _ _ _ _ _ _ us hl => match us, hl with | [_, _, _], _ => rfl
  have m7 := PySem.W.mg_of X G a7
  have b8 := F8.binds (ps := ["rows"]) fun _ _ _ _ _ _ us hl => match us, hl with | [_], _ => rfl
  have m8 := PySem.W.mg_of X G a8
  have b9 := F9.binds (ps := ["rows"]) fun _ _ _ _ _ _ us hl => match us, hl with | [_], _ => rfl
  have m9 := PySem.W.mg_of X G a9
  have b10 := F10.binds (ps := ["rows"]) fun _ _ _ _ _ _ us hl => match us, hl with | [_], _ => rfl
  have m10 := PySem.W.mg_of X G a10
  have b11 := F11.binds (ps := ["rows"]) fun _ _ _ _ _ _ us hl => match us, hl with | [_], _ => rfl
  have m11 := PySem.W.mg_of X G a11
  have b12 := F12.binds (ps := ["rows"]) fun _ _ _ _ _ _ us hl => match us, hl with | [_], _ => rfl
  have m12 := PySem.W.mg_of X G a12
  have b13 := F13.binds (ps := ["rows", "row"]) fun _ _ _ _ _ _ us hl => match us, hl with | [_, _], _ => rfl
  have m13 := PySem.W.mg_of X G a13
  have b14 := F14.binds (ps := ["rows"]) fun _ _ _ _ _ _ us hl => match us, hl with | [_], _ => rfl
  have m14 := PySem.W.mg_of X G a14
  have b15 := F15.binds (ps := ["one", "other"]) fun _ _ _ _ _ _ us hl => match us, hl with | [_, _], _ => rfl
  have m15 := PySem.W.mg_of X G a15
  have b16 := F16.binds (ps := ["rows"]) fun _ _ _ _ _ _ us hl => match us, hl with | [_], _ => rfl
  have m16 := PySem.W.mg_of X G a16
  have b17 := F17.binds (ps := ["rows", "at"]) fun _ _ _ _ _ _ us hl => match us, hl with | [_, _], _ => rfl
  have m17 := PySem.W.mg_of X G a17
  have b18 := F18.binds (ps := ["rows", "at"]) fun _ _ _ _ _ _ us hl => match us, hl with | [_, _], _ => rfl
  have m18 := PySem.W.mg_of X G a18
  have b19 := F19.binds (ps := ["rows"]) fun _ _ _ _ _ _ us hl => match us, hl with | [_], _ => rfl
  have m19 := PySem.W.mg_of X G a19
  have b20 := F20.binds (ps := ["rows"]) fun _ _ _ _ _ _ us hl => match us, hl with | [_], _ => rfl
  have m20 := PySem.W.mg_of X G a20
  have b21 := F21.binds (ps := ["one", "other"]) fun _ _ _ _ _ _ us hl => match us, hl with | [_, _], _ => rfl
  have m21 := PySem.W.mg_of X G a21
  have b22 := F22.binds (ps := ["rows", "told"]) fun _ _ _ _ _ _ us hl => match us, hl with | [_, _], _ => rfl
  have m22 := PySem.W.mg_of X G a22
  have b23 := F23.binds (ps := ["_law_rows_here"]) fun _ _ _ _ _ _ us hl => match us, hl with | [_], _ => rfl
  have m23 := PySem.W.mg_of X G a23
  have B_abs := PySem.W.mg_none_of X G z_abs
  have B_enumerate := PySem.W.mg_none_of X G z_enumerate
  have B_int := PySem.W.mg_none_of X G z_int
  have B_len := PySem.W.mg_none_of X G z_len
  have B_list := PySem.W.mg_none_of X G z_list
  have B_max := PySem.W.mg_none_of X G z_max
  have B_min := PySem.W.mg_none_of X G z_min
  have B_range := PySem.W.mg_none_of X G z_range
  have B_sum := PySem.W.mg_none_of X G z_sum
  have B_tuple := PySem.W.mg_none_of X G z_tuple
  have B_zip := PySem.W.mg_none_of X G z_zip
  refine ⟨PySem.W.fnOf "law" "law" (defArgs s_law_19) (defBody s_law_19) (defScope s_law_19) .none kV24 dc24 pm24 an24 cd24 ct24, fun s v => .of_eq rfl, fun base _ _ => ?_⟩
  have C_law_by : Cal l.prog w K mg base "_law_by" 1 ["_law_rows_here", "_law_factor"] sp_law_by := ⟨_, _, ok_law_by (k := 0) F0 B_tuple, m0, k0, b0⟩
  have C_law_determinant : Cal l.prog w K mg base "_law_determinant" 9 ["_law_rows_here"] (sp_law_determinant 8) := ⟨_, _, okn_law_determinant (k := 0) F1 m1 k1 b1 B_enumerate B_tuple (fun _ _ _ h => z0_law_determinant h) 8, m1, k1, b1⟩
  have C_law_number_1 : Cal l.prog w K mg base "_law_number" 1 ["_law_script", "_law_k"] sp_law_number_1 := ⟨_, _, ok_law_number_1 (k := 0) F2 B_len B_list B_max B_min B_range, m2, k2, b2⟩
  have C_law_power : Cal l.prog w K mg base "_law_power" 1 ["_law_one", "_law_many"] sp_law_power := ⟨_, _, ok_law_power (k := 0) F3 B_range, m3, k3, b3⟩
  have C_law_great_1 : Cal l.prog w K mg base "_law_great" 2 ["_law_script", "_law_k", "_law_groups"] sp_law_great_1 := ⟨_, _, ok_law_great_1 (k := 1) F4 B_range (C_law_number_1.mono (by decide)), m4, k4, b4⟩
  have C_law_rows_2 : Cal l.prog w K mg base "_law_rows" 3 ["_law_script", "_law_start", "_law_wide"] sp_law_rows_2 := ⟨_, _, ok_law_rows_2 (k := 2) F5 B_int B_range B_tuple B_zip (C_law_great_1.mono (by decide)) (C_law_number_1.mono (by decide)), m5, k5, b5⟩
  have C_is_square : Cal l.prog w K mg base "is_square" 1 ["rows"] sp_is_square := ⟨_, _, ok_is_square (k := 0) F6 B_len, m6, k6, b6⟩
  have C_taken_off : Cal l.prog w K mg base "taken_off" 1 ["row", "many", "other"] sp_taken_off := ⟨_, _, ok_taken_off (k := 0) F7 B_zip, m7, k7, b7⟩
  have C_stepped : Cal l.prog w K mg base "stepped" 2 ["rows"] sp_stepped := ⟨_, _, ok_stepped (k := 1) F8 B_len B_list B_range (C_taken_off.mono (by decide)), m8, k8, b8⟩
  have C_measure_of : Cal l.prog w K mg base "measure_of" 3 ["rows"] sp_measure_of := ⟨_, _, ok_measure_of (k := 2) F9 B_enumerate (C_stepped.mono (by decide)), m9, k9, b9⟩
  have C_is_lattice : Cal l.prog w K mg base "is_lattice" 4 ["rows"] sp_is_lattice := ⟨_, _, ok_is_lattice (k := 3) F10 (C_is_square.mono (by decide)) (C_measure_of.mono (by decide)), m10, k10, b10⟩
  have C_need_lattice : Cal l.prog w K mg base "need_lattice" 5 ["rows"] sp_need_lattice := ⟨_, _, ok_need_lattice (k := 4) F11 (C_is_lattice.mono (by decide)), m11, k11, b11⟩
  have C_standing : Cal l.prog w K mg base "standing" 6 ["rows"] sp_standing := ⟨_, _, ok_standing (k := 5) F12 B_len B_range B_tuple (C_need_lattice.mono (by decide)) (C_stepped.mono (by decide)) (C_taken_off.mono (by decide)), m12, k12, b12⟩
  have C_has_row : Cal l.prog w K mg base "has_row" 7 ["rows", "row"] sp_has_row := ⟨_, _, ok_has_row (k := 6) F13 B_enumerate B_len B_list (C_need_lattice.mono (by decide)) (C_standing.mono (by decide)) (C_taken_off.mono (by decide)), m13, k13, b13⟩
  have C_measure : Cal l.prog w K mg base "measure" 6 ["rows"] sp_measure := ⟨_, _, ok_measure (k := 5) F14 (C_measure_of.mono (by decide)) (C_need_lattice.mono (by decide)), m14, k14, b14⟩
  have C_product_of : Cal l.prog w K mg base "product_of" 1 ["one", "other"] sp_product_of := ⟨_, _, ok_product_of (k := 0) F15 B_sum B_zip, m15, k15, b15⟩
  have C_shares_of : Cal l.prog w K mg base "shares_of" 2 ["rows"] sp_shares_of := ⟨_, _, ok_shares_of (k := 1) F16 B_enumerate B_range (C_product_of.mono (by decide)), m16, k16, b16⟩
  have C_cut_down : Cal l.prog w K mg base "cut_down" 3 ["rows", "at"] sp_cut_down := ⟨_, _, ok_cut_down (k := 2) F17 B_list B_range (C_shares_of.mono (by decide)) (C_taken_off.mono (by decide)), m17, k17, b17⟩
  have C_stands_behind : Cal l.prog w K mg base "stands_behind" 3 ["rows", "at"] sp_stands_behind := ⟨_, _, ok_stands_behind (k := 2) F18 (C_shares_of.mono (by decide)), m18, k18, b18⟩
  have C_reduced : Cal l.prog w K mg base "reduced" 6 ["rows"] sp_reduced := ⟨_, _, ok_reduced (k := 5) F19 B_len B_list B_max B_tuple (C_cut_down.mono (by decide)) (C_need_lattice.mono (by decide)) (C_stands_behind.mono (by decide)), m19, k19, b19⟩
  have C_has_small_shares : Cal l.prog w K mg base "has_small_shares" 3 ["rows"] sp_has_small_shares := ⟨_, _, ok_has_small_shares (k := 2) F20 B_abs B_enumerate B_range (C_shares_of.mono (by decide)), m20, k20, b20⟩
  have C_same_lattice : Cal l.prog w K mg base "same_lattice" 7 ["one", "other"] sp_same_lattice := ⟨_, _, ok_same_lattice (k := 6) F21 (C_is_lattice.mono (by decide)) (C_need_lattice.mono (by decide)) (C_standing.mono (by decide)), m21, k21, b21⟩
  have C_reduced_shown : Cal l.prog w K mg base "reduced_shown" 8 ["rows", "told"] sp_reduced_shown := ⟨_, _, ok_reduced_shown (k := 7) F22 B_len B_range (C_has_small_shares.mono (by decide)) (C_same_lattice.mono (by decide)) (C_stands_behind.mono (by decide)), m22, k22, b22⟩
  have C_law_seen_right : Cal l.prog w K mg base "_law_seen_right" 9 ["_law_rows_here"] sp_law_seen_right := ⟨_, _, ok_law_seen_right (k := 8) F23 B_len B_sum (C_law_by.mono (by decide)) (C_law_power.mono (by decide)) (C_has_row.mono (by decide)) (C_measure.mono (by decide)) (C_reduced.mono (by decide)) (C_reduced_shown.mono (by decide)) (C_same_lattice.mono (by decide)) (C_standing.mono (by decide)), m23, k23, b23⟩
  exact ok_law_19 (k := 9) F24 B_len B_tuple (C_law_by.mono (by decide)) (C_law_determinant.mono (by decide)) (C_law_number_1.mono (by decide)) (C_law_power.mono (by decide)) (C_law_rows_2.mono (by decide)) (C_law_seen_right.mono (by decide)) (C_has_row.mono (by decide)) (C_measure.mono (by decide)) (C_same_lattice.mono (by decide)) (C_standing.mono (by decide))
end K_k19
open PySem PySem.W PyProof.Rows
set_option maxHeartbeats 0 in
theorem PySem.Challenge.cw_underone_k19_whole_lattices_seen_otherwi_holds : PySem.Challenge.rw_underone_k19_whole_lattices_seen_otherwi.Holds := by
  w_on; o_law; k_head; (case hw => w_witness2)
  k_fill
  refine L2.walk_of (l := PySem.Challenge.rw_underone_k19_whole_lattices_seen_otherwi) (n := 63) (k := 10) (x := "_law_script") (CX := fun _ => L2.CX0) (sp := fun w => L3.lift _ L3.spLaw) rfl (by decide) rfl ⟨rfl, by decide, by decide⟩ (fun w h Y => PySem.W.kIn_of Y) ?F (fun _ H a ns hl _ hS => L3.spLaw_of H a ns hl hS) (fun _ _ _ _ _ h => h)
  case F =>
    intro w mg fa h KX G hmg
    refine' K_k19.all_mk KX G hmg ?a0 ?l0 ?c0 ?k0 ?a1 ?l1 ?c1 ?k1 ?a2 ?l2 ?c2 ?k2 ?a3 ?l3 ?c3 ?k3 ?a4 ?l4 ?c4 ?k4 ?a5 ?l5 ?c5 ?k5 ?a6 ?l6 ?c6 ?k6 ?a7 ?l7 ?c7 ?k7 ?a8 ?l8 ?c8 ?k8 ?a9 ?l9 ?c9 ?k9 ?a10 ?l10 ?c10 ?k10 ?a11 ?l11 ?c11 ?k11 ?a12 ?l12 ?c12 ?k12 ?a13 ?l13 ?c13 ?k13 ?a14 ?l14 ?c14 ?k14 ?a15 ?l15 ?c15 ?k15 ?a16 ?l16 ?c16 ?k16 ?a17 ?l17 ?c17 ?k17 ?a18 ?l18 ?c18 ?k18 ?a19 ?l19 ?c19 ?k19 ?a20 ?l20 ?c20 ?k20 ?a21 ?l21 ?c21 ?k21 ?a22 ?l22 ?c22 ?k22 ?a23 ?l23 ?c23 ?k23 ?a24 ?l24 ?c24 ?k24 ?z_abs ?z_enumerate ?z_int ?z_len ?z_list ?z_max ?z_min ?z_range ?z_sum ?z_tuple ?z_zip
    (case a0 => k_is); (case l0 => k_is); (case c0 => k_is); (case k0 => k_is); (case a1 => k_is); (case l1 => k_is); (case c1 => k_is); (case k1 => k_is); (case a2 => k_is); (case l2 => k_is); (case c2 => k_is); (case k2 => k_is); (case a3 => k_is); (case l3 => k_is); (case c3 => k_is); (case k3 => k_is); (case a4 => k_is); (case l4 => k_is); (case c4 => k_is); (case k4 => k_is); (case a5 => k_is); (case l5 => k_is); (case c5 => k_is); (case k5 => k_is); (case a6 => k_is); (case l6 => k_is); (case c6 => k_is); (case k6 => k_is); (case a7 => k_is); (case l7 => k_is); (case c7 => k_is); (case k7 => k_is); (case a8 => k_is); (case l8 => k_is); (case c8 => k_is); (case k8 => k_is); (case a9 => k_is); (case l9 => k_is); (case c9 => k_is); (case k9 => k_is); (case a10 => k_is); (case l10 => k_is); (case c10 => k_is); (case k10 => k_is); (case a11 => k_is); (case l11 => k_is); (case c11 => k_is); (case k11 => k_is); (case a12 => k_is); (case l12 => k_is); (case c12 => k_is); (case k12 => k_is); (case a13 => k_is); (case l13 => k_is); (case c13 => k_is); (case k13 => k_is); (case a14 => k_is); (case l14 => k_is); (case c14 => k_is); (case k14 => k_is); (case a15 => k_is); (case l15 => k_is); (case c15 => k_is); (case k15 => k_is); (case a16 => k_is); (case l16 => k_is); (case c16 => k_is); (case k16 => k_is); (case a17 => k_is); (case l17 => k_is); (case c17 => k_is); (case k17 => k_is); (case a18 => k_is); (case l18 => k_is); (case c18 => k_is); (case k18 => k_is); (case a19 => k_is); (case l19 => k_is); (case c19 => k_is); (case k19 => k_is); (case a20 => k_is); (case l20 => k_is); (case c20 => k_is); (case k20 => k_is); (case a21 => k_is); (case l21 => k_is); (case c21 => k_is); (case k21 => k_is); (case a22 => k_is); (case l22 => k_is); (case c22 => k_is); (case k22 => k_is); (case a23 => k_is); (case l23 => k_is); (case c23 => k_is); (case k23 => k_is); (case a24 => k_is); (case l24 => k_is); (case c24 => k_is); (case k24 => k_is); (case z_abs => k_is); (case z_enumerate => k_is); (case z_int => k_is); (case z_len => k_is); (case z_list => k_is); (case z_max => k_is); (case z_min => k_is); (case z_range => k_is); (case z_sum => k_is); (case z_tuple => k_is); (case z_zip => k_is)
