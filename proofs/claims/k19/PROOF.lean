import PyProof.Rows.All
import Wide.All
import OpenK.AllK
import Wide.FinOn
import HandS.ForMost
import HandS.Deep
import HandS.Zip
import HandS.TupAny
import HandS.Text
import HandS.Rev
import HandS.RevRange
import HandS.IsInst
import HandS.Style
import HandS.RaiseMore
import HandS.Conv
import KE.SortData
import HandS.SortRule
import PyProof.StrBlock2
import HandS.StrMore
import HandS.More
import KE.KTupSum
import KE.DataMinMax
import HandS.TupMul
import HandS.Zip0
import PyProof.EnumMake
import HandS.Replace
import HandS.Strs
import PyProof.StrLawsTight
import HandS.DictComp
import PyProof.Rows.StrPadFill
import KE.GoesEnum
import PySem.Challenge.RW_printlands_k19_whole_tables_of_texts
set_option Elab.async false
set_option linter.all false
set_option maxRecDepth 100000
set_option maxHeartbeats 4000000
namespace AL
open PySem PySem.Spec PyProof.Rows L2

inductive Md where
  | o (m : Nat)
  | b
  deriving DecidableEq
inductive SV where
  | dead
  | box
  | scr (ns : List Int)
  | val (d : PyData) (m : Md)
abbrev AS := List SV
def slot : AS → Nat → SV
  | [], _ => .dead
  | x :: _, 0 => x
  | _ :: r, i + 1 => slot r i
def put : AS → Nat → SV → AS
  | [], _, _ => []
  | _ :: r, 0, y => y :: r
  | x :: r, i + 1, y => x :: put r i y
theorem put_len : ∀ (st : AS) (i : Nat) (y : SV), (put st i y).length = st.length
  | [], _, _ => rfl
  | _ :: _, 0, _ => rfl
  | _ :: r, i + 1, y => congrArg (· + 1) (put_len r i y)
theorem slot_put_same : ∀ (st : AS) (i : Nat) (y : SV), i < st.length → slot (put st i y) i = y
  | [], _, _, h => absurd h (Nat.not_lt_zero _)
  | _ :: _, 0, _, _ => rfl
  | _ :: r, i + 1, y, h => slot_put_same r i y (Nat.lt_of_succ_lt_succ h)
theorem slot_put_ne : ∀ (st : AS) (i j : Nat) (y : SV), j ≠ i → slot (put st i y) j = slot st j
  | [], _, _, _, _ => rfl
  | _ :: _, 0, 0, _, h => absurd rfl h
  | _ :: _, 0, _ + 1, _, _ => rfl
  | _ :: _, _ + 1, 0, _, _ => rfl
  | _ :: r, i + 1, j + 1, y, h => slot_put_ne r i j y fun e => h (congrArg (· + 1) e)
theorem slot_ge : ∀ (st : AS) (i : Nat), st.length ≤ i → slot st i = .dead
  | [], _, _ => rfl
  | _ :: _, 0, h => absurd h (Nat.not_succ_le_zero _)
  | _ :: r, i + 1, h => slot_ge r i (Nat.le_of_succ_le_succ h)

def sc : PyData → Bool
  | .none => true
  | .bool _ => true
  | .int _ => true
  | .str _ => true
  | _ => false

def kD : Key → PyData
  | .inl i => .int i
  | .inr z => .str z
def DictO (o : HO) (hd : PyData) (vs : List V) : Prop := (∃ kv : List (Key × V), o = .dK kv ∧ hd = .list (kv.map fun p => kD p.1) ∧ vs = kv.map (·.2) ∧ (kv.map (·.1)).Nodup) ∨ ∃ kv : List (List Key × V), o = .dT kv ∧ hd = .tuple (kv.map fun p => .tuple (p.1.map kD)) ∧ vs = kv.map (·.2) ∧ (kv.map (·.1)).Nodup
def nld : PyData → Bool
  | .list _ => false
  | .dict _ => false
  | _ => true
mutual
def nod : PyData → Bool
  | .list xs => nodAll xs
  | .tuple xs => nodAll xs
  | .dict _ => false
  | _ => true
def nodAll : List PyData → Bool
  | [] => true
  | x :: r => nod x && nodAll r
end
mutual
theorem nod_lay : ∀ d : PyData, d.canLay0 = true → nod d = true
  | .none, _ => rfl
  | .bool _, _ => rfl
  | .int _, _ => rfl
  | .str _, _ => rfl
  | .list xs, h => by rw [nod]; exact nodAll_lay xs (by simpa [PyData.canLay0] using h)
  | .tuple xs, h => by rw [nod]; exact nodAll_lay xs (by simpa [PyData.canLay0] using h)
  | .dict _, h => by simp [PyData.canLay0] at h
theorem nodAll_lay : ∀ ds : List PyData, PyData.canLayAll0 ds = true → nodAll ds = true
  | [], _ => rfl
  | x :: r, h => by
    rw [PyData.canLayAll0, Bool.and_eq_true] at h
    rw [nodAll, nod_lay x h.1, nodAll_lay r h.2]
    rfl
end
theorem nod_shaped {d : PyData} (h : SeqAt.shaped d = true) : nod d = true := by
  unfold SeqAt.shaped at h
  rw [Bool.and_eq_true] at h
  exact nod_lay d h.1
theorem nodAll_of : ∀ {ds : List PyData}, (∀ d ∈ ds, nod d = true) → nodAll ds = true
  | [], _ => rfl
  | d :: r, h => by rw [nodAll, h d (List.mem_cons_self ..), nodAll_of fun x hx => h x (List.mem_cons_of_mem _ hx)]; rfl
mutual
inductive Rp (K : PySem.W.Frag) (H : Hp) : V → PyData → Prop
  | non : Rp K H .non .none
  | bl (b : Bool) : Rp K H (.bl b) (.bool b)
  | int (i : Int) : Rp K H (.int i) (.int i)
  | str (x : Str) : Rp K H (.str x) (.str x)
  | lst {a : Addr} {xs : List V} {ds : List PyData} : H a = some (.lst xs) → RpAll K H xs ds → Rp K H (.ref a) (.list ds)
  | tup {a : Addr} {xs : List V} {ds : List PyData} : SqT K H a xs → RpAll K H xs ds → Rp K H (.ref a) (.tuple ds)
  | dct {a : Addr} {o : HO} {ks : PyData} {ds : List PyData} {vs : List V} : H a = some o → DictO o ks vs → RpAll K H vs ds → Rp K H (.ref a) (.dict [(ks, .list ds)])
inductive RpAll (K : PySem.W.Frag) (H : Hp) : List V → List PyData → Prop
  | nil : RpAll K H [] []
  | cons {v : V} {vs : List V} {d : PyData} {ds : List PyData} : Rp K H v d → RpAll K H vs ds → RpAll K H (v :: vs) (d :: ds)
end
mutual
theorem Rp.dp {K : PySem.W.Frag} {H : Hp} : ∀ (d : PyData) (v : V), Rp K H v d → nod d = true → Dp K H v d
  | .none, _, h, _ => by cases h; exact .non
  | .bool _, _, h, _ => by cases h; exact .bl _
  | .int _, _, h, _ => by cases h; exact .int _
  | .str _, _, h, _ => by cases h; exact .str _
  | .list ds, _, h, n => by
    cases h with
    | lst s a => exact .lst (SqL.of s) (RpAll.dp ds _ a n)
  | .tuple ds, _, h, n => by
    cases h with
    | tup s a => exact .tup s (RpAll.dp ds _ a n)
  | .dict _, _, _, n => nomatch n
theorem RpAll.dp {K : PySem.W.Frag} {H : Hp} : ∀ (ds : List PyData) (vs : List V), RpAll K H vs ds → nodAll ds = true → DpAll K H vs ds
  | [], _, h, _ => by cases h; exact .nil
  | d :: ds, _, h, n => by
    rw [nodAll, Bool.and_eq_true] at n
    cases h with
    | cons h1 h2 => exact .cons (Rp.dp d _ h1 n.1) (RpAll.dp ds _ h2 n.2)
end
theorem rp_mono.seqT {K : PySem.W.Frag} {H H' : Hp} (e : Same H H') {a : Addr} {xs : List V} (h : SqT K H a xs) : SqT K H' a xs := by
  rcases h with (h | ⟨o, h⟩) | h
  · exact .inl (.inl (e _ _ h))
  · exact .inl (.inr ⟨o, e _ _ h⟩)
  · exact .inr h
mutual
theorem rp_mono0 {K : PySem.W.Frag} {H H' : Hp} (e : Same H H') : ∀ {v : V} {d : PyData}, Rp K H v d → Rp K H' v d
  | _, _, .non => .non
  | _, _, .bl b => .bl b
  | _, _, .int i => .int i
  | _, _, .str x => .str x
  | _, _, .lst s a => .lst (e _ _ s) (rpAll_mono0 e a)
  | _, _, .tup s a => .tup (rp_mono.seqT e s) (rpAll_mono0 e a)
  | _, _, .dct s o a => .dct (e _ _ s) o (rpAll_mono0 e a)
theorem rpAll_mono0 {K : PySem.W.Frag} {H H' : Hp} (e : Same H H') : ∀ {vs : List V} {ds : List PyData}, RpAll K H vs ds → RpAll K H' vs ds
  | _, _, .nil => .nil
  | _, _, .cons h1 h2 => .cons (rp_mono0 e h1) (rpAll_mono0 e h2)
end
theorem rp_mono {K : PySem.W.Frag} {H H' : Hp} (e : Same H H') : ∀ (d : PyData) (v : V), Rp K H v d → Rp K H' v d := fun _ _ h => rp_mono0 e h
theorem rpAll_mono {K : PySem.W.Frag} {H H' : Hp} (e : Same H H') : ∀ (ds : List PyData) (vs : List V), RpAll K H vs ds → RpAll K H' vs ds := fun _ _ h => rpAll_mono0 e h
theorem rp_sc {K : PySem.W.Frag} {H H' : Hp} {v : V} {d : PyData} (h : Rp K H v d) (s : sc d = true) : Rp K H' v d := by
  cases h with
  | non => exact .non
  | bl b => exact .bl b
  | int i => exact .int i
  | str x => exact .str x
  | lst _ _ => exact absurd s (by simp [sc])
  | tup _ _ => exact absurd s (by simp [sc])
  | dct _ _ _ => exact absurd s (by simp [sc])
theorem rpAll_len {K : PySem.W.Frag} {H : Hp} : ∀ {vs : List V} {ds : List PyData}, RpAll K H vs ds → vs.length = ds.length
  | _, _, .nil => rfl
  | _, _, .cons _ t => congrArg (· + 1) (rpAll_len t)
theorem rpAll_get {K : PySem.W.Frag} {H : Hp} : ∀ {vs : List V} {ds : List PyData} {i : Nat} {d : PyData}, RpAll K H vs ds → ds[i]? = some d → ∃ v, vs[i]? = some v ∧ Rp K H v d
  | _, _, _, _, .nil, e => by simp at e
  | _, _, 0, _, .cons h _, e => by simp at e; subst e; exact ⟨_, rfl, h⟩
  | _, _, i + 1, d, .cons _ t, e => by
    obtain ⟨v, e1, h1⟩ := rpAll_get (i := i) (d := d) t (by simpa using e)
    exact ⟨v, by simpa using e1, h1⟩
theorem rpAll_getV {K : PySem.W.Frag} {H : Hp} : ∀ {vs : List V} {ds : List PyData} {i : Nat} {v : V}, RpAll K H vs ds → vs[i]? = some v → ∃ d, ds[i]? = some d ∧ Rp K H v d
  | _, _, _, _, .nil, e => by simp at e
  | _, _, 0, _, .cons h _, e => by simp at e; subst e; exact ⟨_, rfl, h⟩
  | _, _, i + 1, d, .cons _ t, e => by
    obtain ⟨v, e1, h1⟩ := rpAll_getV (i := i) (v := d) t (by simpa using e)
    exact ⟨v, by simpa using e1, h1⟩
theorem rpAll_app {K : PySem.W.Frag} {H : Hp} : ∀ {vs us : List V} {ds es : List PyData}, RpAll K H vs ds → RpAll K H us es → RpAll K H (vs ++ us) (ds ++ es)
  | _, _, _, _, .nil, s => s
  | _, _, _, _, .cons h t, s => .cons h (rpAll_app t s)
theorem rpAll_take {K : PySem.W.Frag} {H : Hp} : ∀ {vs : List V} {ds : List PyData} (n : Nat), RpAll K H vs ds → RpAll K H (vs.take n) (ds.take n)
  | _, _, 0, _ => .nil
  | _, _, _ + 1, .nil => .nil
  | _, _, n + 1, .cons h t => .cons h (rpAll_take n t)
theorem rpAll_drop {K : PySem.W.Frag} {H : Hp} : ∀ {vs : List V} {ds : List PyData} (n : Nat), RpAll K H vs ds → RpAll K H (vs.drop n) (ds.drop n)
  | _, _, 0, s => s
  | _, _, _ + 1, .nil => .nil
  | _, _, n + 1, .cons _ t => rpAll_drop n t
theorem rpAll_sc {K : PySem.W.Frag} {H H' : Hp} : ∀ {vs : List V} {ds : List PyData}, RpAll K H vs ds → ds.all sc = true → RpAll K H' vs ds
  | _, _, .nil, _ => .nil
  | _, _, .cons h t, s => by
    rw [List.all_cons, Bool.and_eq_true] at s
    exact .cons (rp_sc h s.1) (rpAll_sc t s.2)
theorem rpAll_ints {K : PySem.W.Frag} {H : Hp} : ∀ ns : List Int, RpAll K H (ns.map V.int) (ns.map PyData.int)
  | [] => .nil
  | n :: r => .cons (.int n) (rpAll_ints r)

inductive Fp3 (R : V → PyData → List Addr → Prop) : List V → List PyData → List Addr → Prop
  | nil : Fp3 R [] [] []
  | cons {v : V} {vs : List V} {d : PyData} {ds : List PyData} {f fs : List Addr} : R v d f → Fp3 R vs ds fs → Fp3 R (v :: vs) (d :: ds) (f ++ fs)
def Own (K : PySem.W.Frag) (F H : Hp) : Nat → V → PyData → List Addr → Prop
  | 0, v, d, fp => Rp K F v d ∧ fp = []
  | m + 1, v, .list ds, fp => ∃ a xs fs, v = .ref a ∧ H a = some (.lst xs) ∧ F a = none ∧ Fp3 (Own K F H m) xs ds fs ∧ fp = a :: fs
  | m + 1, v, .dict x, fp => ∃ ks ds, x = [(ks, .list ds)] ∧ ∃ a o xs fs, v = .ref a ∧ H a = some o ∧ DictO o ks xs ∧ F a = none ∧ Fp3 (Own K F H m) xs ds fs ∧ fp = a :: fs
  | _ + 1, v, d, fp => Rp K F v d ∧ fp = []
theorem Fp3.len {R : V → PyData → List Addr → Prop} : ∀ {vs : List V} {ds : List PyData} {fs : List Addr}, Fp3 R vs ds fs → vs.length = ds.length
  | _, _, _, .nil => rfl
  | _, _, _, .cons _ t => congrArg (· + 1) t.len
theorem Fp3.mono {R R' : V → PyData → List Addr → Prop} : ∀ {vs : List V} {ds : List PyData} {fs : List Addr}, Fp3 R vs ds fs → (∀ v d f, (∀ a ∈ f, a ∈ fs) → R v d f → R' v d f) → Fp3 R' vs ds fs
  | _, _, _, .nil, _ => .nil
  | _, _, _, .cons h t, k => .cons (k _ _ _ (fun _ m => List.mem_append_left _ m) h) (t.mono fun v d f s => k v d f fun a m => List.mem_append_right _ (s a m))
theorem Fp3.app {R : V → PyData → List Addr → Prop} : ∀ {vs us : List V} {ds es : List PyData} {fs gs : List Addr}, Fp3 R vs ds fs → Fp3 R us es gs → Fp3 R (vs ++ us) (ds ++ es) (fs ++ gs)
  | _, _, _, _, _, _, .nil, s => s
  | _, _, _, _, _, _, .cons h t, s => by rw [List.append_assoc]; exact .cons h (t.app s)
theorem own_flat {K : PySem.W.Frag} {F H : Hp} {m : Nat} {v : V} {d : PyData} (h : Rp K F v d) (s : nld d = true) : Own K F H m v d [] := by
  cases m with
  | zero => exact ⟨h, rfl⟩
  | succ m =>
    cases d with
    | list ds => exact absurd s (by simp [nld])
    | none => exact ⟨h, rfl⟩
    | bool _ => exact ⟨h, rfl⟩
    | int _ => exact ⟨h, rfl⟩
    | str _ => exact ⟨h, rfl⟩
    | tuple _ => exact ⟨h, rfl⟩
    | dict _ => exact absurd s (by simp [nld])
theorem own_notlist {K : PySem.W.Frag} {F H : Hp} {m : Nat} {v : V} {d : PyData} {f : List Addr} (h : Own K F H m v d f) (s : nld d = true) : Rp K F v d ∧ f = [] := by
  cases m with
  | zero => exact h
  | succ m =>
    cases d with
    | list ds => exact absurd s (by simp [nld])
    | none => exact h
    | bool _ => exact h
    | int _ => exact h
    | str _ => exact h
    | tuple _ => exact h
    | dict _ => exact absurd s (by simp [nld])
theorem own0 {K : PySem.W.Frag} {F H : Hp} {v : V} {d : PyData} (h : Rp K F v d) : Own K F H 0 v d [] := ⟨h, rfl⟩
theorem own_mono {K : PySem.W.Frag} {F H F' H' : Hp} (ff : Same F F') : ∀ (m : Nat) (v : V) (d : PyData) (f : List Addr), Own K F H m v d f →
    (∀ a ∈ f, ∀ o, H a = some o → H' a = some o) → (∀ a ∈ f, F a = none → F' a = none) → Own K F' H' m v d f := by
  intro m
  induction m with
  | zero => exact fun v d f h _ _ => ⟨rp_mono ff _ _ h.1, h.2⟩
  | succ m ih =>
    intro v d f h hk hn
    cases d with
    | list ds =>
      obtain ⟨a, xs, fs, e1, e2, e3, e4, e5⟩ := h
      subst e5
      exact ⟨a, xs, fs, e1, hk a (List.mem_cons_self ..) _ e2, hn a (List.mem_cons_self ..) e3, e4.mono fun v d f s r =>
        ih v d f r (fun b hb => hk b (List.mem_cons_of_mem _ (s b hb))) fun b hb => hn b (List.mem_cons_of_mem _ (s b hb)), rfl⟩
    | none => exact ⟨rp_mono ff _ _ h.1, h.2⟩
    | bool _ => exact ⟨rp_mono ff _ _ h.1, h.2⟩
    | int _ => exact ⟨rp_mono ff _ _ h.1, h.2⟩
    | str _ => exact ⟨rp_mono ff _ _ h.1, h.2⟩
    | tuple _ => exact ⟨rp_mono ff _ _ h.1, h.2⟩
    | dict x =>
      obtain ⟨ks, ds, e0, a, o, xs, fs, e1, e2, e2', e3, e4, e5⟩ := h
      subst e5
      exact ⟨ks, ds, e0, a, o, xs, fs, e1, hk a (List.mem_cons_self ..) _ e2, e2', hn a (List.mem_cons_self ..) e3, e4.mono fun v d f s r =>
        ih v d f r (fun b hb => hk b (List.mem_cons_of_mem _ (s b hb))) fun b hb => hn b (List.mem_cons_of_mem _ (s b hb)), rfl⟩
theorem fp3_live {K : PySem.W.Frag} {F H : Hp} {m : Nat} (ih : ∀ v d f, Own K F H m v d f → ∀ a ∈ f, (∃ o, H a = some o) ∧ F a = none) :
    ∀ {vs : List V} {ds : List PyData} {fs : List Addr}, Fp3 (Own K F H m) vs ds fs → ∀ a ∈ fs, (∃ o, H a = some o) ∧ F a = none
  | _, _, _, .nil, a, h => by simp at h
  | _, _, _, .cons h t, a, hm => by
    rcases List.mem_append.mp hm with q | q
    · exact ih _ _ _ h a q
    · exact fp3_live ih t a q
theorem own_live {K : PySem.W.Frag} {F H : Hp} : ∀ (m : Nat) (v : V) (d : PyData) (f : List Addr), Own K F H m v d f → ∀ a ∈ f, (∃ o, H a = some o) ∧ F a = none := by
  intro m
  induction m with
  | zero =>
    intro v d f h a ha
    rw [h.2] at ha
    simp at ha
  | succ m ih =>
    intro v d f h a ha
    cases d with
    | list ds =>
      obtain ⟨b, xs, fs, e1, e2, e3, e4, e5⟩ := h
      subst e5
      rcases List.mem_cons.mp ha with q | q
      · subst q; exact ⟨⟨_, e2⟩, e3⟩
      · exact fp3_live ih e4 a q
    | none => rw [h.2] at ha; simp at ha
    | bool _ => rw [h.2] at ha; simp at ha
    | int _ => rw [h.2] at ha; simp at ha
    | str _ => rw [h.2] at ha; simp at ha
    | tuple _ => rw [h.2] at ha; simp at ha
    | dict x =>
      obtain ⟨ks, ds, e0, b, o, xs, fs, e1, e2, e2', e3, e4, e5⟩ := h
      subst e5
      rcases List.mem_cons.mp ha with q | q
      · subst q; exact ⟨⟨_, e2⟩, e3⟩
      · exact fp3_live ih e4 a q
def frz (F H : Hp) (l : List Addr) : Hp := fun a => if a ∈ l then H a else F a
theorem frz_in {F H : Hp} {l : List Addr} {a : Addr} (h : a ∈ l) : frz F H l a = H a := by unfold frz; rw [if_pos h]
theorem frz_out {F H : Hp} {l : List Addr} {a : Addr} (h : a ∉ l) : frz F H l a = F a := by unfold frz; rw [if_neg h]
theorem frz_same {F H : Hp} {l : List Addr} (hn : ∀ a ∈ l, F a = none) : Same F (frz F H l) := fun a o e => by
  by_cases h : a ∈ l
  · rw [hn a h] at e; cases e
  · rw [frz_out h]; exact e
theorem frz_sub {F H : Hp} {l : List Addr} (fh : Same F H) : Same (frz F H l) H := fun a o e => by
  by_cases h : a ∈ l
  · rw [frz_in h] at e; exact e
  · rw [frz_out h] at e; exact fh _ _ e
theorem frz_mono {F H : Hp} {l l' : List Addr} (fh : Same F H) (h : ∀ a ∈ l, a ∈ l') : Same (frz F H l) (frz F H l') := fun a o e => by
  by_cases q : a ∈ l
  · rw [frz_in q] at e; rw [frz_in (h a q)]; exact e
  · rw [frz_out q] at e
    by_cases q' : a ∈ l'
    · rw [frz_in q']; exact fh _ _ e
    · rw [frz_out q']; exact e
theorem fp3_rp {K : PySem.W.Frag} {F H G : Hp} {m : Nat} (ih : ∀ v d f, Own K F H m v d f → Same (frz F H f) G → Rp K G v d) (fh : Same F H) :
    ∀ {vs : List V} {ds : List PyData} {fs : List Addr}, Fp3 (Own K F H m) vs ds fs → Same (frz F H fs) G → RpAll K G vs ds
  | _, _, _, .nil, _ => .nil
  | _, _, _, .cons h t, s => .cons (ih _ _ _ h ((frz_mono fh fun _ m => List.mem_append_left _ m).trans s)) (fp3_rp ih fh t ((frz_mono fh fun _ m => List.mem_append_right _ m).trans s))
theorem own_rp {K : PySem.W.Frag} {F H G : Hp} (fh : Same F H) : ∀ (m : Nat) (v : V) (d : PyData) (f : List Addr), Own K F H m v d f → Same (frz F H f) G → Rp K G v d := by
  intro m
  induction m with
  | zero =>
    intro v d f h s
    refine rp_mono (Same.trans (fun a o e => ?_) s) _ _ h.1
    rw [h.2, frz_out (by simp)]
    exact e
  | succ m ih =>
    intro v d f h s
    cases d with
    | list ds =>
      obtain ⟨b, xs, fs, e1, e2, e3, e4, e5⟩ := h
      subst e5 e1
      exact .lst (s _ _ (by rw [frz_in (List.mem_cons_self ..)]; exact e2)) (fp3_rp (fun v d f => ih v d f) fh e4 ((frz_mono fh fun _ m => List.mem_cons_of_mem _ m).trans s))
    | none => exact rp_mono (Same.trans (fun a o e => by rw [h.2, frz_out (by simp)]; exact e) s) _ _ h.1
    | bool _ => exact rp_mono (Same.trans (fun a o e => by rw [h.2, frz_out (by simp)]; exact e) s) _ _ h.1
    | int _ => exact rp_mono (Same.trans (fun a o e => by rw [h.2, frz_out (by simp)]; exact e) s) _ _ h.1
    | str _ => exact rp_mono (Same.trans (fun a o e => by rw [h.2, frz_out (by simp)]; exact e) s) _ _ h.1
    | tuple _ => exact rp_mono (Same.trans (fun a o e => by rw [h.2, frz_out (by simp)]; exact e) s) _ _ h.1
    | dict x =>
      obtain ⟨ks, ds, e0, b, o, xs, fs, e1, e2, e2', e3, e4, e5⟩ := h
      subst e5 e1 e0
      exact .dct (s _ _ (by rw [frz_in (List.mem_cons_self ..)]; exact e2)) e2' (fp3_rp (fun v d f => ih v d f) fh e4 ((frz_mono fh fun _ m => List.mem_cons_of_mem _ m).trans s))
end AL

namespace AL
open PySem PySem.Spec PyProof.Rows L2

structure Bx where
  b : Addr
  dig : Addr
  ds : List Int
def nb (B : Option Bx) (a : Addr) : Prop := ∀ x, B = some x → x.b ≠ a
def era (B : Option Bx) (H : Hp) : Hp := fun a => match B with
  | some x => if x.b = a then none else H a
  | none => H a
theorem era_nb {B : Option Bx} {H : Hp} {a : Addr} (h : nb B a) : era B H a = H a := by
  cases B with
  | none => rfl
  | some x => show (if x.b = a then none else H a) = H a; rw [if_neg (h x rfl)]
theorem era_of {B : Option Bx} {H : Hp} {a : Addr} {o : HO} (h : era B H a = some o) : H a = some o ∧ nb B a := by
  cases B with
  | none => exact ⟨h, fun x e => by cases e⟩
  | some x =>
    have h' : (if x.b = a then none else H a) = some o := h
    by_cases q : x.b = a
    · rw [if_pos q] at h'; cases h'
    · rw [if_neg q] at h'; exact ⟨h', fun y e => by cases e; exact q⟩
theorem era_sub {B : Option Bx} {H : Hp} : Same (era B H) H := fun _ _ e => (era_of e).1
structure Wf (K : PySem.W.Frag) (B : Option Bx) (F H : Hp) : Prop where
  fh : Same F H
  bn : ∀ x, B = some x → F x.b = none
  bk : ∀ x, B = some x → ∃ k : Int, 0 ≤ k ∧ H x.b = some (.lst [.ref x.dig, .int k])
  bd : ∀ x, B = some x → F x.dig = some (.lst (x.ds.map V.int))
theorem Wf.nbF {K : PySem.W.Frag} {B : Option Bx} {F H : Hp} (w : Wf K B F H) {a : Addr} {o : HO} (h : F a = some o) : nb B a := fun x e q => by
  subst q
  rw [w.bn x e] at h; cases h
theorem Wf.sub {K : PySem.W.Frag} {B : Option Bx} {F H : Hp} (w : Wf K B F H) : Same F (era B H) := fun a o e => by
  rw [era_nb (w.nbF e)]; exact w.fh _ _ e
structure Ext (K : PySem.W.Frag) (B : Option Bx) (F H F' H' : Hp) : Prop where
  hh : ∀ a o, nb B a → H a = some o → H' a = some o
  ff : Same F F'
  nw : ∀ a o, F' a = some o → F a = some o ∨ H a = none
  wf : Wf K B F' H'
theorem Ext.refl {K : PySem.W.Frag} {B : Option Bx} {F H : Hp} (w : Wf K B F H) : Ext K B F H F H := ⟨fun _ _ _ h => h, fun _ _ h => h, fun _ _ h => .inl h, w⟩
theorem Ext.old {K : PySem.W.Frag} {B : Option Bx} {F H F' H' : Hp} (e : Ext K B F H F' H') {a : Addr} (n : nb B a) (h : H' a = none) : H a = none := by
  cases q : H a with
  | none => rfl
  | some o => rw [e.hh a o n q] at h; cases h
theorem Ext.trans {K : PySem.W.Frag} {B : Option Bx} {F H F1 H1 F2 H2 : Hp} (e : Ext K B F H F1 H1) (e' : Ext K B F1 H1 F2 H2) : Ext K B F H F2 H2 :=
  ⟨fun a o n h => e'.hh a o n (e.hh a o n h), e.ff.trans e'.ff, fun a o h => by
    rcases e'.nw a o h with q | q
    · exact e.nw a o q
    · exact .inr (e.old (e'.wf.nbF h) q), e'.wf⟩
theorem Ext.era {K : PySem.W.Frag} {B : Option Bx} {F H F' H' : Hp} (e : Ext K B F H F' H') : Same (era B H) (era B H') := fun a o h => by
  obtain ⟨h1, n⟩ := era_of h
  rw [era_nb n]
  exact e.hh a o n h1
theorem Ext.laid {K : PySem.W.Frag} {B : Option Bx} {F H : Hp} {p : Addr} {o : HO} (w : Wf K B F H) (n : H p = none) : Ext K B F H F (upd H p o) := by
  refine ⟨fun a u _ h => ?_, fun _ _ h => h, fun _ _ h => .inl h, ⟨fun a u h => ?_, w.bn, fun x e => ?_, w.bd⟩⟩
  · rw [upd_ne (ne_of_none h n)]; exact h
  · rw [upd_ne (ne_of_none (w.fh _ _ h) n)]; exact w.fh _ _ h
  · obtain ⟨k, h0, h⟩ := w.bk x e
    exact ⟨k, h0, by rw [upd_ne (ne_of_none h n)]; exact h⟩
theorem Wf.new {K : PySem.W.Frag} {B : Option Bx} {F H : Hp} {p : Addr} (w : Wf K B F H) (n : H p = none) : nb B p := fun x e q => by
  obtain ⟨k, _, h⟩ := w.bk x e
  rw [q, n] at h; cases h
theorem Ext.laidF {K : PySem.W.Frag} {B : Option Bx} {F H : Hp} {p : Addr} {o : HO} (w : Wf K B F H) (n : H p = none) : Ext K B F H (upd F p o) (upd H p o) := by
  have np : F p = none := by
    cases q : F p with
    | none => rfl
    | some u => rw [w.fh _ _ q] at n; cases n
  have e := Ext.laid (o := o) w n
  have ff : Same F (upd F p o) := fun a u h => by rw [upd_ne (ne_of_none h np)]; exact h
  refine ⟨e.hh, ff, fun a u h => ?_, ⟨fun a u h => ?_, fun x q => ?_, e.wf.bk, fun x q => ff _ _ (w.bd x q)⟩⟩
  · by_cases q : a = p
    · subst q; exact .inr n
    · rw [upd_ne q] at h; exact .inl h
  · by_cases q : a = p
    · subst q; rw [upd_same] at h ⊢; exact h
    · rw [upd_ne q] at h ⊢; exact w.fh _ _ h
  · rw [upd_ne fun z => w.new n x q z]
    exact w.bn x q

def TR (K : PySem.W.Frag) (B : Option Bx) (F H : Hp) (v : V) (d : PyData) (md : Md) (fp : List Addr) : Prop :=
  fp.Nodup ∧ (∀ a ∈ fp, nb B a) ∧ match md with
    | .o m => Own K F H m v d fp
    | .b => Rp K (era B H) v d ∧ fp = []
section
variable {K : PySem.W.Frag} {B : Option Bx} {F H F' H' Fs Hs : Hp} {v : V} {d : PyData} {md : Md} {fp : List Addr}
theorem TR.of (h : Rp K F v d) : TR K B F H v d (.o 0) [] := ⟨List.nodup_nil, fun _ h => by simp at h, h, rfl⟩
theorem TR.live (t : TR K B F H v d md fp) : ∀ a ∈ fp, (∃ o, H a = some o) ∧ F a = none := by
  cases md with
  | o m => exact own_live m _ _ _ t.2.2
  | b => intro a ha; rw [t.2.2.2] at ha; simp at ha
theorem TR.ext (t : TR K B F H v d md fp) (e : Ext K B F H F' H') : TR K B F' H' v d md fp := by
  refine ⟨t.1, t.2.1, ?_⟩
  cases md with
  | o m =>
    refine own_mono e.ff m _ _ _ t.2.2 (fun a ha o h => e.hh a o (t.2.1 a ha) h) fun a ha hn => ?_
    cases q : F' a with
    | none => rfl
    | some o =>
      rcases e.nw a o q with z | z
      · rw [hn] at z; cases z
      · obtain ⟨⟨xs, hx⟩, _⟩ := t.live a ha
        rw [hx] at z; cases z
  | b => exact ⟨rp_mono e.era _ _ t.2.2.1, t.2.2.2⟩
theorem TR.read (t : TR K B F H v d md fp) (w : Wf K B F H) : Rp K (era B H) v d := by
  cases md with
  | b => exact t.2.2.1
  | o m =>
    refine own_rp w.fh m _ _ _ t.2.2 fun a o h => ?_
    by_cases q : a ∈ fp
    · rw [frz_in q] at h; rw [era_nb (t.2.1 a q)]; exact h
    · rw [frz_out q] at h; exact w.sub _ _ h
theorem TR.readH (t : TR K B F H v d md fp) (w : Wf K B F H) : Rp K H v d := rp_mono era_sub _ _ (t.read w)
theorem TR.scal (t : TR K B F H v d md fp) (w : Wf K B F H) (s : sc d = true) : Rp K F' v d := rp_sc (t.read w) s
theorem Ext.frz (e : Ext K B Fs Hs F H) {l : List Addr} (nl : ∀ a ∈ l, nb B a) (nF : ∀ a ∈ l, F a = none) (fr : ∀ a ∈ l, Hs a = none) : Ext K B Fs Hs (frz F H l) H := by
  have ff := frz_same (F := F) (H := H) nF
  refine ⟨e.hh, e.ff.trans ff, fun a o h => ?_, ⟨frz_sub e.wf.fh, fun x q => ?_, e.wf.bk, fun x q => ff _ _ (e.wf.bd x q)⟩⟩
  · by_cases q : a ∈ l
    · exact .inr (fr a q)
    · rw [frz_out q] at h; exact e.nw a o h
  · by_cases z : x.b ∈ l
    · exact absurd rfl (nl _ z x q)
    · rw [frz_out z]; exact e.wf.bn x q
theorem TR.give {m : Nat} (t : TR K B F H v d (.o m) fp) (e : Ext K B Fs Hs F H) (fr : ∀ a ∈ fp, Hs a = none) : Ext K B Fs Hs (AL.frz F H fp) H ∧ Same F (AL.frz F H fp) ∧ Rp K (AL.frz F H fp) v d :=
  ⟨e.frz t.2.1 (fun a ha => (t.live a ha).2) fr, frz_same fun a ha => (t.live a ha).2, own_rp e.wf.fh m _ _ _ t.2.2 (Same.refl _)⟩
theorem TR.beside {l : List Addr} (t : TR K B F H v d md fp) (nF : ∀ a ∈ l, F a = none) (dj : ∀ a ∈ fp, a ∉ l) : TR K B (frz F H l) H v d md fp := by
  refine ⟨t.1, t.2.1, ?_⟩
  cases md with
  | b => exact t.2.2
  | o m => exact own_mono (frz_same nF) m _ _ _ t.2.2 (fun _ _ _ h => h) fun a ha h => by rw [frz_out (dj a ha)]; exact h
end
def okK (d : PyData) : Md → Bool
  | .o _ => true
  | .b => sc d
theorem TR.keep {K : PySem.W.Frag} {B : Option Bx} {F H Fs Hs : Hp} {v : V} {d : PyData} {md : Md} {fp : List Addr} (t : TR K B F H v d md fp) (k : okK d md = true) (e : Ext K B Fs Hs F H) (fr : ∀ a ∈ fp, Hs a = none) :
    Ext K B Fs Hs (frz F H fp) H ∧ Same F (frz F H fp) ∧ Rp K (frz F H fp) v d := by
  cases md with
  | o m => exact t.give e fr
  | b =>
    have e0 := t.2.2.2
    subst e0
    exact ⟨e.frz (fun _ h => by simp at h) (fun _ h => by simp at h) fun _ h => by simp at h, frz_same fun _ h => by simp at h, t.scal e.wf k⟩

def ovr (f : Nat → List Addr) (i : Nat) (x : List Addr) : Nat → List Addr := fun j => if j = i then x else f j
theorem ovr_eq {f : Nat → List Addr} {i j : Nat} {x : List Addr} (z : j = i) : ovr f i x j = x := if_pos z
theorem ovr_ne {f : Nat → List Addr} {i j : Nat} {x : List Addr} (z : ¬ j = i) : ovr f i x j = f j := if_neg z
structure SR (K : PySem.W.Frag) (B : Option Bx) (F0 H0 F H : Hp) (σ : L2.St) (st : AS) : Prop where
  ext : Ext K B F0 H0 F H
  len : σ.length = st.length
  own : ∃ fpf : Nat → List Addr, (∀ i d md, slot st i = .val d md → ∃ v, σ[i]? = some (some v) ∧ TR K B F H v d md (fpf i)) ∧
    (∀ i, (∀ d md, slot st i ≠ .val d md) → fpf i = []) ∧ (∀ i j a, a ∈ fpf i → a ∈ fpf j → i = j) ∧ ∀ i a, a ∈ fpf i → H0 a = none
  box : ∀ i, slot st i = .box → ∃ x, B = some x ∧ σ[i]? = some (some (.ref x.b))
  scr : ∀ i ns, slot st i = .scr ns → ∃ a, σ[i]? = some (some (.ref a)) ∧ SqL K F a (ns.map V.int)
section
variable {K : PySem.W.Frag} {B : Option Bx} {F0 H0 F H F' H' Fs Hs : Hp} {σ : L2.St} {st : AS} {v : V} {d : PyData} {md : Md} {fp : List Addr} {i : Nat}
theorem SR.wf (R : SR K B F0 H0 F H σ st) : Wf K B F H := R.ext.wf
theorem SR.go (R : SR K B F0 H0 F H σ st) (e : Ext K B F H F' H') : SR K B F0 H0 F' H' σ st := by
  obtain ⟨fpf, h1, h2, h3, h4⟩ := R.own
  refine ⟨R.ext.trans e, R.len, ⟨fpf, fun i d md q => ?_, h2, h3, h4⟩, R.box, fun i ns q => let ⟨a, h1, h2⟩ := R.scr i ns q; ⟨a, h1, e.ff.seq h2⟩⟩
  obtain ⟨v, q1, q2⟩ := h1 i d md q
  exact ⟨v, q1, q2.ext e⟩
theorem SR.get (R : SR K B F0 H0 F H σ st) (h : slot st i = .val d md) : ∃ v fp, σ[i]? = some (some v) ∧ TR K B F H v d md fp ∧ ∀ a ∈ fp, H0 a = none := by
  obtain ⟨fpf, h1, _, _, h4⟩ := R.own
  obtain ⟨v, q1, q2⟩ := h1 i d md h
  exact ⟨v, _, q1, q2, h4 i⟩
theorem fpf_live {fpf : Nat → List Addr} (h1 : ∀ i d md, slot st i = .val d md → ∃ v, σ[i]? = some (some v) ∧ TR K B F H v d md (fpf i)) (h2 : ∀ i, (∀ d md, slot st i ≠ .val d md) → fpf i = []) : ∀ i a, a ∈ fpf i → (∃ o, H a = some o) ∧ F a = none ∧ nb B a := by
  intro i a ha
  cases q : slot st i with
  | dead =>
    rw [h2 i (fun d md z => by rw [q] at z; cases z)] at ha; simp at ha
  | box =>
    rw [h2 i (fun d md z => by rw [q] at z; cases z)] at ha; simp at ha
  | scr ns =>
    rw [h2 i (fun d md z => by rw [q] at z; cases z)] at ha; simp at ha
  | val d md =>
    obtain ⟨v, _, t⟩ := h1 i d md q
    exact ⟨(t.live a ha).1, (t.live a ha).2, t.2.1 a ha⟩
theorem SR.set (R : SR K B F0 H0 F H σ st) (e : Ext K B F H F' H') (t : TR K B F' H' v d md fp) (fr : ∀ a ∈ fp, H a = none) (hi : i < st.length) : SR K B F0 H0 F' H' (σ.set i (some v)) (put st i (.val d md)) := by
  obtain ⟨fpf, h1, h2, h3, h4⟩ := R.own
  have lv := fpf_live h1 h2
  have dj : ∀ j a, a ∈ fpf j → a ∉ fp := fun j a ha hb => by
    obtain ⟨⟨xs, hx⟩, _⟩ := lv j a ha
    rw [fr a hb] at hx; cases hx
  refine ⟨R.ext.trans e, by rw [List.length_set, put_len]; exact R.len, ⟨ovr fpf i fp, fun j d' md' q => ?_, fun j q => ?_, fun j k a ha hb => ?_, fun j a ha => ?_⟩, fun j q => ?_, fun j ns q => ?_⟩
  · by_cases z : j = i
    · subst z
      rw [slot_put_same _ _ _ hi] at q
      cases q
      refine ⟨v, ?_, ?_⟩
      · rw [List.getElem?_set_self (by rw [R.len]; exact hi)]
      · rw [ovr_eq rfl]; exact t
    · rw [slot_put_ne _ _ _ _ z] at q
      obtain ⟨u, q1, q2⟩ := h1 j d' md' q
      refine ⟨u, by rw [List.getElem?_set_ne (Ne.symm z)]; exact q1, ?_⟩
      rw [ovr_ne z]; exact q2.ext e
  · by_cases z : j = i
    · subst z
      rw [slot_put_same _ _ _ hi] at q
      exact absurd rfl (q d md)
    · rw [ovr_ne z]
      exact h2 j fun d' md' z' => q d' md' (by rw [slot_put_ne _ _ _ _ z]; exact z')
  · by_cases z : j = i
    · rw [ovr_eq z] at ha
      by_cases y : k = i
      · rw [z, y]
      · rw [ovr_ne y] at hb
        exact absurd ha (dj k a hb)
    · rw [ovr_ne z] at ha
      by_cases y : k = i
      · rw [ovr_eq y] at hb
        exact absurd hb (dj j a ha)
      · rw [ovr_ne y] at hb
        exact h3 j k a ha hb
  · by_cases z : j = i
    · rw [ovr_eq z] at ha
      exact R.ext.old (t.2.1 a ha) (fr a ha)
    · rw [ovr_ne z] at ha
      exact h4 j a ha
  · by_cases z : j = i
    · subst z
      rw [slot_put_same _ _ _ hi] at q; cases q
    · rw [slot_put_ne _ _ _ _ z] at q
      obtain ⟨x, q1, q2⟩ := R.box j q
      exact ⟨x, q1, by rw [List.getElem?_set_ne (Ne.symm z)]; exact q2⟩
  · by_cases z : j = i
    · subst z
      rw [slot_put_same _ _ _ hi] at q; cases q
    · rw [slot_put_ne _ _ _ _ z] at q
      obtain ⟨x, q1, q2⟩ := R.scr j ns q
      exact ⟨x, by rw [List.getElem?_set_ne (Ne.symm z)]; exact q1, e.ff.seq q2⟩
theorem SR.kill (R : SR K B F0 H0 F H σ st) (u : Option V) : SR K B F0 H0 F H (σ.set i u) (put st i .dead) := by
  obtain ⟨fpf, h1, h2, h3, h4⟩ := R.own
  have hd : ∀ j d' md', slot (put st i .dead) j = .val d' md' → j ≠ i ∧ slot st j = .val d' md' := fun j d' md' q => by
    by_cases z : j = i
    · subst z
      by_cases hi : j < st.length
      · rw [slot_put_same _ _ _ hi] at q; cases q
      · rw [slot_ge _ _ (by rw [put_len]; omega)] at q; cases q
    · rw [slot_put_ne _ _ _ _ z] at q; exact ⟨z, q⟩
  refine ⟨R.ext, by rw [List.length_set, put_len]; exact R.len, ⟨ovr fpf i [], fun j d' md' q => ?_, fun j q => ?_, fun j k a ha hb => ?_, fun j a ha => ?_⟩, fun j q => ?_, fun j ns q => ?_⟩
  · obtain ⟨z, q'⟩ := hd j d' md' q
    obtain ⟨w, q1, q2⟩ := h1 j d' md' q'
    exact ⟨w, by rw [List.getElem?_set_ne (Ne.symm z)]; exact q1, by rw [ovr_ne z]; exact q2⟩
  · by_cases z : j = i
    · rw [ovr_eq z]
    · rw [ovr_ne z]
      exact h2 j fun d' md' z' => q d' md' (by rw [slot_put_ne _ _ _ _ z]; exact z')
  · by_cases z : j = i
    · rw [ovr_eq z] at ha; simp at ha
    · by_cases y : k = i
      · rw [ovr_eq y] at hb; simp at hb
      · rw [ovr_ne z] at ha; rw [ovr_ne y] at hb
        exact h3 j k a ha hb
  · by_cases z : j = i
    · rw [ovr_eq z] at ha; simp at ha
    · rw [ovr_ne z] at ha; exact h4 j a ha
  · by_cases z : j = i
    · subst z
      by_cases hi : j < st.length
      · rw [slot_put_same _ _ _ hi] at q; cases q
      · rw [slot_ge _ _ (by rw [put_len]; omega)] at q; cases q
    · rw [slot_put_ne _ _ _ _ z] at q
      obtain ⟨x, q1, q2⟩ := R.box j q
      exact ⟨x, q1, by rw [List.getElem?_set_ne (Ne.symm z)]; exact q2⟩
  · by_cases z : j = i
    · subst z
      by_cases hi : j < st.length
      · rw [slot_put_same _ _ _ hi] at q; cases q
      · rw [slot_ge _ _ (by rw [put_len]; omega)] at q; cases q
    · rw [slot_put_ne _ _ _ _ z] at q
      obtain ⟨x, q1, q2⟩ := R.scr j ns q
      exact ⟨x, by rw [List.getElem?_set_ne (Ne.symm z)]; exact q1, q2⟩
end
def fzs (st : AS) (i : Nat) : AS := match slot st i with
  | .val d (.o (_ + 1)) => put st i (.val d (.o 0))
  | _ => st
theorem SR.fz {K : PySem.W.Frag} {B : Option Bx} {F0 H0 F H : Hp} {σ : L2.St} {st : AS} (R : SR K B F0 H0 F H σ st) (i : Nat) : ∃ F', Same F F' ∧ SR K B F0 H0 F' H σ (fzs st i) := by
  unfold fzs
  split
  · rename_i d m hs
    obtain ⟨fpf, h1, h2, h3, h4⟩ := R.own
    have lv := fpf_live h1 h2
    have hi : i < st.length := by
      by_cases z : i < st.length
      · exact z
      · rw [slot_ge _ _ (Nat.le_of_not_lt z)] at hs; cases hs
    obtain ⟨v, q1, t⟩ := h1 i d _ hs
    obtain ⟨e, ff, dp⟩ := t.give R.ext (h4 i)
    refine ⟨_, ff, e, by rw [put_len]; exact R.len, ⟨ovr fpf i [], fun j d' md' q => ?_, fun j q => ?_, fun j k a ha hb => ?_, fun j a ha => ?_⟩, fun j q => ?_, fun j ns q => ?_⟩
    · by_cases z : j = i
      · subst z
        rw [slot_put_same _ _ _ hi] at q
        cases q
        rw [ovr_eq rfl]
        exact ⟨v, q1, .of dp⟩
      · rw [slot_put_ne _ _ _ _ z] at q
        obtain ⟨u, p1, p2⟩ := h1 j d' md' q
        refine ⟨u, p1, ?_⟩
        rw [ovr_ne z]
        exact p2.beside (fun a ha => (lv i a ha).2.1) fun a ha hb => z (h3 j i a ha hb)
    · by_cases z : j = i
      · rw [ovr_eq z]
      · rw [ovr_ne z]
        exact h2 j fun d' md' z' => q d' md' (by rw [slot_put_ne _ _ _ _ z]; exact z')
    · by_cases z : j = i
      · rw [ovr_eq z] at ha; simp at ha
      · by_cases y : k = i
        · rw [ovr_eq y] at hb; simp at hb
        · rw [ovr_ne z] at ha; rw [ovr_ne y] at hb
          exact h3 j k a ha hb
    · by_cases z : j = i
      · rw [ovr_eq z] at ha; simp at ha
      · rw [ovr_ne z] at ha; exact h4 j a ha
    · by_cases z : j = i
      · subst z
        rw [slot_put_same _ _ _ hi] at q; cases q
      · rw [slot_put_ne _ _ _ _ z] at q
        exact R.box j q
    · by_cases z : j = i
      · subst z
        rw [slot_put_same _ _ _ hi] at q; cases q
      · rw [slot_put_ne _ _ _ _ z] at q
        obtain ⟨x, q1, q2⟩ := R.scr j ns q
        exact ⟨x, q1, ff.seq q2⟩
  · exact ⟨F, Same.refl _, R⟩

abbrev QE := PyData → Md → Prop
abbrev WE := AS → QE → Prop
abbrev WT := AS → (Bool → Prop) → Prop
abbrev WA := AS → (List SV → Prop) → Prop
structure AEnds where
  nx : AS → Prop
  rt : QE
  bk : AS → Prop := fun _ => False
  ct : AS → Prop := fun _ => False
abbrev WS := AEnds → AS → Prop
def NoB (st : AS) : Prop := ∀ i d, slot st i ≠ .val d .b

structure TrE (X : Cx) (e : Expr) (w : WE) : Prop where
  run : ∃ t, PE X e t ∧ ∀ B F0 H0 F H σ st Q (Q' : VK), SR X.K B F0 H0 F H σ st → w st Q →
    (∀ v F' H' d md fp, Ext X.K B F H F' H' → TR X.K B F' H' v d md fp → (∀ a ∈ fp, H a = none) → Q d md → Q' v H') → t σ H Q'
structure TrT (X : Cx) (e : Expr) (w : WT) : Prop where
  run : ∃ t, PT X e t ∧ ∀ B F0 H0 F H σ st Q (Q' : Bool → Hp → Prop), SR X.K B F0 H0 F H σ st → w st Q →
    (∀ c F' H', Ext X.K B F H F' H' → Q c → Q' c H') → t σ H Q'
def ArgR (K : PySem.W.Frag) (B : Option Bx) (F H : Hp) (v : V) : SV → Prop
  | .val d (.o 0) => Rp K F v d
  | .val d .b => Rp K (era B H) v d
  | .box => ∃ x, B = some x ∧ v = .ref x.b
  | .scr ns => ∃ a, v = .ref a ∧ SqL K F a (ns.map V.int)
  | _ => False
structure TrA (X : Cx) (es : List Expr) (w : WA) : Prop where
  run : ∃ t, PA X es t ∧ ∀ B F0 H0 F H σ st Q (Q' : List V → Hp → Prop), SR X.K B F0 H0 F H σ st → w st Q →
    (∀ vs F' H' as, Ext X.K B F H F' H' → Paired (ArgR X.K B F' H') vs as → Q as → Q' vs H') → t σ H Q'
structure EndsOk (K : PySem.W.Frag) (B : Option Bx) (F0 H0 F : Hp) (D : AEnds) (D' : Ends) : Prop where
  nx : ∀ σ' F' H' st', Same F F' → SR K B F0 H0 F' H' σ' st' → NoB st' → D.nx st' → D'.nx σ' H'
  bk : ∀ σ' F' H' st', Same F F' → SR K B F0 H0 F' H' σ' st' → NoB st' → D.bk st' → D'.bk σ' H'
  ct : ∀ σ' F' H' st', Same F F' → SR K B F0 H0 F' H' σ' st' → NoB st' → D.ct st' → D'.ct σ' H'
  rt : ∀ v F' H' d md fp, Ext K B F0 H0 F' H' → TR K B F' H' v d md fp → (∀ a ∈ fp, H0 a = none) → D.rt d md → D'.rt v H'
theorem EndsOk.mono {K : PySem.W.Frag} {B : Option Bx} {F0 H0 F F1 : Hp} {D : AEnds} {D' : Ends} (k : EndsOk K B F0 H0 F D D') (s : Same F F1) : EndsOk K B F0 H0 F1 D D' :=
  ⟨fun σ F' H' st q => k.nx σ F' H' st (s.trans q), fun σ F' H' st q => k.bk σ F' H' st (s.trans q), fun σ F' H' st q => k.ct σ F' H' st (s.trans q), k.rt⟩
structure TrS (X : Cx) (s : Stmt) (w : WS) : Prop where
  run : ∃ t, PS X s t ∧ ∀ B F0 H0 F H σ st D D', SR X.K B F0 H0 F H σ st → NoB st → w D st → EndsOk X.K B F0 H0 F D D' → t D' σ H
structure TrB (X : Cx) (s : List Stmt) (w : WS) : Prop where
  run : ∃ t, PSs X s t ∧ ∀ B F0 H0 F H σ st D D', SR X.K B F0 H0 F H σ st → NoB st → w D st → EndsOk X.K B F0 H0 F D D' → t D' σ H
theorem noB_put {st : AS} {i : Nat} {d : PyData} {m : Nat} (n : NoB st) : NoB (put st i (.val d (.o m))) := fun j d' q => by
  by_cases z : j = i
  · subst z
    by_cases hi : j < st.length
    · rw [slot_put_same _ _ _ hi] at q; cases q
    · rw [slot_ge _ _ (by rw [put_len]; omega)] at q; cases q
  · rw [slot_put_ne _ _ _ _ z] at q; exact n j d' q
theorem noB_kill {st : AS} {i : Nat} (n : NoB st) : NoB (put st i .dead) := fun j d' q => by
  by_cases z : j = i
  · subst z
    by_cases hi : j < st.length
    · rw [slot_put_same _ _ _ hi] at q; cases q
    · rw [slot_ge _ _ (by rw [put_len]; omega)] at q; cases q
  · rw [slot_put_ne _ _ _ _ z] at q; exact n j d' q
theorem noB_fz {st : AS} {i : Nat} (n : NoB st) : NoB (fzs st i) := by
  unfold fzs
  split
  · exact noB_put n
  · exact n
end AL

namespace AL
open PySem PySem.Spec PyProof.Rows L2

def rdm : Md → Md
  | .o 0 => .o 0
  | _ => .b
def wVar (i : Nat) : WE := fun st Q => match slot st i with
  | .val d m => Q d (rdm m)
  | _ => False
def wC (d : PyData) : WE := fun _ Q => Q d (.o 0)
section
variable {X : Cx} {pos : Pos}
theorem te_var (i : Nat) {x : Str} (hN : X.N[i]? = some x := by rfl) (hv : Vis X.env.scope x := by first | exact Or.inl rfl | exact Or.inr (Or.inl rfl) | exact Or.inr (Or.inr rfl)) (hd : (x == ("__debug__" : Str)) = false := by decide)
    (hcd : (x == ("__classdict__" : Str)) = false := by decide) : TrE X (.Name x pos) (wVar i) := by
  refine ⟨_, pe_var hN hv hd hcd, fun B F0 H0 F H σ st Q Q' R hw k => ?_⟩
  unfold wVar at hw
  split at hw
  · rename_i d m hs
    obtain ⟨v, fp, q1, t, fr⟩ := R.get hs
    refine ⟨v, q1, ?_⟩
    cases m with
    | b => exact k v F H d .b [] (.refl R.wf) ⟨List.nodup_nil, fun _ h => by simp at h, t.2.2.1, rfl⟩ (fun _ h => by simp at h) hw
    | o m =>
      cases m with
      | zero => exact k v F H d (.o 0) [] (.refl R.wf) (.of t.2.2.1) (fun _ h => by simp at h) hw
      | succ m => exact k v F H d .b [] (.refl R.wf) ⟨List.nodup_nil, fun _ h => by simp at h, t.read R.wf, rfl⟩ (fun _ h => by simp at h) hw
  · exact hw.elim
theorem te_c {e : Expr} {v : V} {d : PyData} (he : PE X e (tC v)) (hr : ∀ F, Rp X.K F v d) : TrE X e (wC d) :=
  ⟨_, he, fun B F0 H0 F H σ st Q Q' R hw k => k v F H d (.o 0) [] (.refl R.wf) (.of (hr F)) (fun _ h => by simp at h) hw⟩
theorem te_int {i : Int} {j pos} : TrE X (.Constant (.int i) j pos) (wC (.int i)) := te_c pe_int fun _ => .int _
theorem te_bl {i : Bool} {j pos} : TrE X (.Constant (.bool i) j pos) (wC (.bool i)) := te_c pe_bl fun _ => .bl _
theorem te_non {j pos} : TrE X (.Constant .none j pos) (wC .none) := te_c pe_non fun _ => .non
theorem te_str {i : Str} {j pos} : TrE X (.Constant (.str i) j pos) (wC (.str i)) := te_c pe_str fun _ => .str _
end

abbrev Op2 := PyData → Md → PyData → Md → QE → Prop
def w2 (a : Op2) (u v : WE) : WE := fun st Q => u st fun d1 m1 => v st fun d2 m2 => a d1 m1 d2 m2 Q
def OpA (X : Cx) (r : R2) (a : Op2) : Prop := ∀ (B : Option Bx) (Fs Hs F H : Hp) (x y : V) (d1 d2 : PyData) (m1 m2 : Md) (f1 f2 : List Addr) (Q : QE) (Q' : VK), Ext X.K B Fs Hs F H →
  TR X.K B F H x d1 m1 f1 → TR X.K B F H y d2 m2 f2 → (∀ a ∈ f1, Hs a = none) → (∀ a ∈ f2, Hs a = none) → (∀ a ∈ f1, a ∉ f2) → a d1 m1 d2 m2 Q →
  (∀ v F' H' d md fp, Ext X.K B Fs Hs F' H' → TR X.K B F' H' v d md fp → (∀ a ∈ fp, Hs a = none) → Q d md → Q' v H') → r x y H Q'
section
variable {X : Cx} {e e1 e2 E : Expr} {u v : WE} {r : R2} {a : Op2}
theorem run2 {t1 t2 : TE} (s1 : ∀ B F0 H0 F H σ st Q (Q' : VK), SR X.K B F0 H0 F H σ st → u st Q → (∀ v F' H' d md fp, Ext X.K B F H F' H' → TR X.K B F' H' v d md fp → (∀ a ∈ fp, H a = none) → Q d md → Q' v H') → t1 σ H Q')
    (s2 : ∀ B F0 H0 F H σ st Q (Q' : VK), SR X.K B F0 H0 F H σ st → v st Q → (∀ v F' H' d md fp, Ext X.K B F H F' H' → TR X.K B F' H' v d md fp → (∀ a ∈ fp, H a = none) → Q d md → Q' v H') → t2 σ H Q')
    {B : Option Bx} {F0 H0 F H : Hp} {σ : L2.St} {st : AS} {Q : PyData → Md → PyData → Md → Prop} {Q' : V → V → Hp → Prop} (R : SR X.K B F0 H0 F H σ st) (hw : u st fun d1 m1 => v st fun d2 m2 => Q d1 m1 d2 m2)
    (k : ∀ x y F2 H2 d1 m1 d2 m2 f1 f2, Ext X.K B F H F2 H2 → TR X.K B F2 H2 x d1 m1 f1 → TR X.K B F2 H2 y d2 m2 f2 → (∀ a ∈ f1, H a = none) → (∀ a ∈ f2, H a = none) → (∀ a ∈ f1, a ∉ f2) → Q d1 m1 d2 m2 → Q' x y H2) :
    t1 σ H fun x H1 => t2 σ H1 fun y H2 => Q' x y H2 := by
  refine s1 B F0 H0 F H σ st _ _ R hw fun x F1 H1 d1 m1 f1 x1 r1 n1 hw1 => ?_
  refine s2 B F0 H0 F1 H1 σ st _ _ (R.go x1) hw1 fun y F2 H2 d2 m2 f2 x2 r2 n2 hw2 => ?_
  refine k x y F2 H2 d1 m1 d2 m2 f1 f2 (x1.trans x2) (r1.ext x2) r2 n1 (fun a ha => x1.old (r2.2.1 a ha) (n2 a ha)) (fun a ha hb => ?_) hw2
  obtain ⟨⟨xs, hx⟩, _⟩ := r1.live a ha
  rw [n2 a hb] at hx; cases hx
theorem te_2 (hpe : ∀ {t1 t2 : TE}, PE X e1 t1 → PE X e2 t2 → PE X E (tOp r t1 t2)) (ha : OpA X r a) (h1 : TrE X e1 u) (h2 : TrE X e2 v) : TrE X E (w2 a u v) := by
  obtain ⟨t1, p1, s1⟩ := h1.run
  obtain ⟨t2, p2, s2⟩ := h2.run
  exact ⟨_, hpe p1 p2, fun B F0 H0 F H σ st Q Q' R hw k => run2 s1 s2 R hw fun x y F2 H2 d1 m1 d2 m2 f1 f2 ex r1 r2 n1 n2 dj hw2 => ha B F H F2 H2 x y d1 d2 m1 m2 f1 f2 Q Q' ex r1 r2 n1 n2 dj hw2 k⟩
theorem te_op {op : Operator} {pos : Pos} (ho : OpR X (binaryOp op) r) (ha : OpA X r a) (h1 : TrE X e1 u) (h2 : TrE X e2 v) : TrE X (.BinOp e1 op e2 pos) (w2 a u v) := te_2 (fun p q => pe_op ho p q) ha h1 h2
theorem te_cmp {op : CmpOp} {pos : Pos} (ho : OpR X (compareOp op) r) (ha : OpA X r a) (h1 : TrE X e1 u) (h2 : TrE X e2 v) (hm : behindInMarks op e2 = false := by first | exact nobehind _ (by decide) (by decide) | rfl) : TrE X (.Compare e1 [op] [e2] pos) (w2 a u v) :=
  te_2 (fun p q => pe_cmpR ho p q hm) ha h1 h2
theorem te_ix {pos : Pos} (ho : IxR X r) (ha : OpA X r a) (h1 : TrE X e1 u) (h2 : TrE X e2 v) (hs : PlainIx e2 := by exact fun _ _ => rfl) : TrE X (.Subscript e1 e2 pos) (w2 a u v) :=
  te_2 (fun p q => pe_ix ho p q hs) ha h1 h2

def wTst (w : WE) : WT := fun st Q => w st fun d _ => match d with
  | .bool c => Q c
  | _ => False
theorem tstB {w : WE} {t : TE} (s : ∀ B F0 H0 F H σ st Q (Q' : VK), SR X.K B F0 H0 F H σ st → w st Q → (∀ v F' H' d md fp, Ext X.K B F H F' H' → TR X.K B F' H' v d md fp → (∀ a ∈ fp, H a = none) → Q d md → Q' v H') → t σ H Q') :
    ∀ B F0 H0 F H σ st Q (Q' : Bool → Hp → Prop), SR X.K B F0 H0 F H σ st → wTst w st Q → (∀ c F' H', Ext X.K B F H F' H' → Q c → Q' c H') → t σ H fun x H' => ∃ k, x = .bl k ∧ Q' k H' := by
  intro B F0 H0 F H σ st Q Q' R hw k
  refine s B F0 H0 F H σ st _ _ R hw fun x F1 H1 d md f x1 r1 n1 hq => ?_
  cases d with
  | bool c =>
    have h := r1.read x1.wf
    cases h
    exact ⟨c, rfl, k c F1 H1 x1 hq⟩
  | none => exact hq.elim
  | int _ => exact hq.elim
  | str _ => exact hq.elim
  | list _ => exact hq.elim
  | tuple _ => exact hq.elim
  | dict _ => exact hq.elim
theorem tt_cmp {op : CmpOp} {pos : Pos} (ho : OpR X (compareOp op) r) (ha : OpA X r a) (h1 : TrE X e1 u) (h2 : TrE X e2 v) (hm : behindInMarks op e2 = false := by first | exact nobehind _ (by decide) (by decide) | rfl) : TrT X (.Compare e1 [op] [e2] pos) (wTst (w2 a u v)) := by
  obtain ⟨t1, p1, s1⟩ := h1.run
  obtain ⟨t2, p2, s2⟩ := h2.run
  refine ⟨_, pt_cmpR ho p1 p2 hm, tstB fun B F0 H0 F H σ st Q Q' R hw k => run2 s1 s2 R hw fun x y F2 H2 d1 m1 d2 m2 f1 f2 ex r1 r2 n1 n2 dj hw2 => ha B F H F2 H2 x y d1 d2 m1 m2 f1 f2 Q Q' ex r1 r2 n1 n2 dj hw2 k⟩
theorem tt_val (h : TrE X e u) (he : ∀ whole, isTrue e X.env whole = (do let v ← whole; standAt e.pos; holding [v] (truthy v)) := by intro _; rfl) : TrT X e (wTst u) := by
  obtain ⟨t, p, s⟩ := h.run
  exact ⟨_, pt_val p he, tstB s⟩
end

structure TrW (X : Cx) (e : Expr) (w : WT) : Prop where
  run : ∃ t, PW X e t ∧ ∀ B F0 H0 F H σ st Q (Q' : Bool → Hp → Prop), SR X.K B F0 H0 F H σ st → w st Q →
    (∀ c F' H', Ext X.K B F H F' H' → Q c → Q' c H') → t σ H Q'
def wAnd (a b : WT) : WT := fun st Q => a st fun c => match c with
  | true => b st Q
  | false => Q false
def wOr (a b : WT) : WT := fun st Q => a st fun c => match c with
  | true => Q true
  | false => b st Q
def wNot (a : WT) : WT := fun st Q => a st fun c => Q (!c)
def wAndV (a b : WE) : WE := fun st Q => a st fun d _ => match d with
  | .bool true => b st Q
  | .bool false => Q (.bool false) (.o 0)
  | _ => False
def wOrV (a b : WE) : WE := fun st Q => a st fun d _ => match d with
  | .bool true => Q (.bool true) (.o 0)
  | .bool false => b st Q
  | _ => False
def wNotV (a : WE) : WE := fun st Q => a st fun d _ => match d with
  | .bool c => Q (.bool (!c)) (.o 0)
  | _ => False
def wIf (c : WT) (a b : WE) : WE := fun st Q => c st fun k => match k with
  | true => a st Q
  | false => b st Q
section
variable {X : Cx} {e b : Expr} {es : List Expr} {pos : Pos} {u v : WT} {a c : WE}
theorem TrW.tt (h : TrW X e u) : TrT X e u := by
  obtain ⟨t, p, s⟩ := h.run
  exact ⟨t, p.pt, s⟩
theorem tw_and1 (h : TrT X e u) : TrW X (.BoolOp .And [e] pos) u := by
  obtain ⟨t, p, s⟩ := h.run
  exact ⟨t, pw_and1 p, s⟩
theorem tw_or1 (h : TrT X e u) : TrW X (.BoolOp .Or [e] pos) u := by
  obtain ⟨t, p, s⟩ := h.run
  exact ⟨t, pw_or1 p, s⟩
theorem tw_and (h1 : TrT X e u) (h2 : TrW X (.BoolOp .And (b :: es) pos) v) : TrW X (.BoolOp .And (e :: b :: es) pos) (wAnd u v) := by
  obtain ⟨t1, p1, s1⟩ := h1.run
  obtain ⟨t2, p2, s2⟩ := h2.run
  refine ⟨_, pw_and p1 p2, fun B F0 H0 F H σ st Q Q' R hw k => s1 B F0 H0 F H σ st _ _ R hw fun c F1 H1 x1 hq => ?_⟩
  cases c with
  | true => exact iteT (s2 B F0 H0 F1 H1 σ st Q Q' (R.go x1) hq fun c F2 H2 x2 => k c F2 H2 (x1.trans x2))
  | false => exact iteF (k false F1 H1 x1 hq)
theorem tw_or (h1 : TrT X e u) (h2 : TrW X (.BoolOp .Or (b :: es) pos) v) : TrW X (.BoolOp .Or (e :: b :: es) pos) (wOr u v) := by
  obtain ⟨t1, p1, s1⟩ := h1.run
  obtain ⟨t2, p2, s2⟩ := h2.run
  refine ⟨_, pw_or p1 p2, fun B F0 H0 F H σ st Q Q' R hw k => s1 B F0 H0 F H σ st _ _ R hw fun c F1 H1 x1 hq => ?_⟩
  cases c with
  | true => exact iteT (k true F1 H1 x1 hq)
  | false => exact iteF (s2 B F0 H0 F1 H1 σ st Q Q' (R.go x1) hq fun c F2 H2 x2 => k c F2 H2 (x1.trans x2))
theorem tt_not (h1 : TrT X e u) : TrT X (.UnaryOp .Not e pos) (wNot u) := by
  obtain ⟨t1, p1, s1⟩ := h1.run
  exact ⟨_, pt_not p1, fun B F0 H0 F H σ st Q Q' R hw k => s1 B F0 H0 F H σ st _ (fun c H1 => Q' (!c) H1) R hw fun c F1 H1 x1 hq => k (!c) F1 H1 x1 hq⟩
theorem boolV {K : PySem.W.Frag} {B : Option Bx} {F H : Hp} {x : V} {d : PyData} {md : Md} {f : List Addr} (r : TR K B F H x d md f) (w : Wf K B F H) {k : Bool} (e : d = .bool k) : x = .bl k := by
  subst e
  have h := r.read w
  cases h
  rfl
theorem te_one {op : BoolOp} (h : TrE X e a) : TrE X (.BoolOp op [e] pos) a := by
  obtain ⟨t, p, s⟩ := h.run
  exact ⟨_, pe_one p, s⟩
theorem te_and (h1 : TrE X e a) (h2 : TrE X (.BoolOp .And (b :: es) pos) c) : TrE X (.BoolOp .And (e :: b :: es) pos) (wAndV a c) := by
  obtain ⟨t1, p1, s1⟩ := h1.run
  obtain ⟨t2, p2, s2⟩ := h2.run
  refine ⟨_, pe_and p1 p2, fun B F0 H0 F H σ st Q Q' R hw k => s1 B F0 H0 F H σ st _ _ R hw fun x F1 H1 d md f x1 r1 n1 hq => ?_⟩
  cases d with
  | bool q =>
    refine ⟨q, boolV r1 x1.wf rfl, ?_⟩
    cases q with
    | true => exact iteT (s2 B F0 H0 F1 H1 σ st Q Q' (R.go x1) hq fun v F2 H2 d md f x2 r2 n2 => k v F2 H2 d md f (x1.trans x2) r2 fun a ha => x1.old (r2.2.1 a ha) (n2 a ha))
    | false => exact iteF (k (.bl false) F1 H1 _ _ [] x1 (.of (.bl false)) (fun _ h => by simp at h) hq)
  | none => exact hq.elim
  | int _ => exact hq.elim
  | str _ => exact hq.elim
  | list _ => exact hq.elim
  | tuple _ => exact hq.elim
  | dict _ => exact hq.elim
theorem te_or (h1 : TrE X e a) (h2 : TrE X (.BoolOp .Or (b :: es) pos) c) : TrE X (.BoolOp .Or (e :: b :: es) pos) (wOrV a c) := by
  obtain ⟨t1, p1, s1⟩ := h1.run
  obtain ⟨t2, p2, s2⟩ := h2.run
  refine ⟨_, pe_or p1 p2, fun B F0 H0 F H σ st Q Q' R hw k => s1 B F0 H0 F H σ st _ _ R hw fun x F1 H1 d md f x1 r1 n1 hq => ?_⟩
  cases d with
  | bool q =>
    refine ⟨q, boolV r1 x1.wf rfl, ?_⟩
    cases q with
    | false => exact iteF (s2 B F0 H0 F1 H1 σ st Q Q' (R.go x1) hq fun v F2 H2 d md f x2 r2 n2 => k v F2 H2 d md f (x1.trans x2) r2 fun a ha => x1.old (r2.2.1 a ha) (n2 a ha))
    | true => exact iteT (k (.bl true) F1 H1 _ _ [] x1 (.of (.bl true)) (fun _ h => by simp at h) hq)
  | none => exact hq.elim
  | int _ => exact hq.elim
  | str _ => exact hq.elim
  | list _ => exact hq.elim
  | tuple _ => exact hq.elim
  | dict _ => exact hq.elim
theorem te_not (h1 : TrE X e a) : TrE X (.UnaryOp .Not e pos) (wNotV a) := by
  obtain ⟨t1, p1, s1⟩ := h1.run
  refine ⟨_, pe_not p1, fun B F0 H0 F H σ st Q Q' R hw k => s1 B F0 H0 F H σ st _ _ R hw fun x F1 H1 d md f x1 r1 n1 hq => ?_⟩
  cases d with
  | bool q => exact ⟨q, boolV r1 x1.wf rfl, k (.bl (!q)) F1 H1 _ _ [] x1 (.of (.bl _)) (fun _ h => by simp at h) hq⟩
  | none => exact hq.elim
  | int _ => exact hq.elim
  | str _ => exact hq.elim
  | list _ => exact hq.elim
  | tuple _ => exact hq.elim
  | dict _ => exact hq.elim
theorem te_if {t e1 e2 : Expr} (h0 : TrT X t u) (h1 : TrE X e1 a) (h2 : TrE X e2 c) : TrE X (.IfExp t e1 e2 pos) (wIf u a c) := by
  obtain ⟨t0, p0, s0⟩ := h0.run
  obtain ⟨t1, p1, s1⟩ := h1.run
  obtain ⟨t2, p2, s2⟩ := h2.run
  refine ⟨_, pe_ifExp p0 p1 p2, fun B F0 H0 F H σ st Q Q' R hw k => s0 B F0 H0 F H σ st _ _ R hw fun q F1 H1 x1 hq => ?_⟩
  cases q with
  | true => exact iteT (s1 B F0 H0 F1 H1 σ st Q Q' (R.go x1) hq fun v F2 H2 d md f x2 r2 n2 => k v F2 H2 d md f (x1.trans x2) r2 fun a ha => x1.old (r2.2.1 a ha) (n2 a ha))
  | false => exact iteF (s2 B F0 H0 F1 H1 σ st Q Q' (R.go x1) hq fun v F2 H2 d md f x2 r2 n2 => k v F2 H2 d md f (x1.trans x2) r2 fun a ha => x1.old (r2.2.1 a ha) (n2 a ha))
end

theorem opa_read {X : Cx} {r : R2} {a : Op2} (h : ∀ (H : Hp) (x y : V) (d1 d2 : PyData) (m1 m2 : Md) (Q : QE) (Q' : VK), Rp X.K H x d1 → Rp X.K H y d2 → a d1 m1 d2 m2 Q → (∀ v d, (∀ F, Rp X.K F v d) → Q d (.o 0) → Q' v H) → r x y H Q') : OpA X r a := by
  intro B Fs Hs F H x y d1 d2 m1 m2 f1 f2 Q Q' ex r1 r2 n1 n2 dj hw k
  exact h H x y d1 d2 m1 m2 Q Q' (r1.readH ex.wf) (r2.readH ex.wf) hw fun v d hr hq => k v F H d (.o 0) [] ex (.of (hr F)) (fun _ h => by simp at h) hq
def aI (g : Int → Int → PyData) (c : Int → Int → Prop) : Op2 := fun d1 _ d2 _ Q => match d1, d2 with
  | .int i, .int j => c i j ∧ Q (g i j) (.o 0)
  | _, _ => False
theorem opa_I {X : Cx} {C c : Int → Int → Prop} {g : Int → Int → V} {g' : Int → Int → PyData} (hg : ∀ i j F, Rp X.K F (g i j) (g' i j)) (hc : ∀ i j, c i j → C i j) : OpA X (rI C g) (aI g' c) := by
  refine opa_read fun H x y d1 d2 m1 m2 Q Q' h1 h2 hw k => ?_
  unfold aI at hw
  split at hw
  · cases h1
    cases h2
    exact ⟨_, _, rfl, rfl, hc _ _ hw.1, k _ _ (hg _ _) hw.2⟩
  · exact hw.elim
def aI0 (g : Int → Int → PyData) : Op2 := fun d1 _ d2 _ Q => match d1, d2 with
  | .int i, .int j => Q (g i j) (.o 0)
  | _, _ => False
theorem opa_I0 {X : Cx} {g : Int → Int → V} {g' : Int → Int → PyData} (hg : ∀ i j F, Rp X.K F (g i j) (g' i j)) : OpA X (rI0 g) (aI0 g') := by
  refine opa_read fun H x y d1 d2 m1 m2 Q Q' h1 h2 hw k => ?_
  unfold aI0 at hw
  split at hw
  · cases h1
    cases h2
    exact ⟨_, _, rfl, rfl, k _ _ (hg _ _) hw⟩
  · exact hw.elim
def okL (xs : List PyData) : Md → Bool
  | .o _ => true
  | .b => xs.all sc
def jn (a b : Bool) : Md := if a && b then .o 1 else .b
end AL

namespace AL
open PySem PySem.Spec PyProof.Rows L2

theorem fp3_0 {K : PySem.W.Frag} {F H : Hp} : ∀ {vs : List V} {ds : List PyData}, RpAll K F vs ds → Fp3 (Own K F H 0) vs ds []
  | _, _, .nil => .nil
  | _, _, .cons h t => Fp3.cons (f := []) ⟨h, rfl⟩ (fp3_0 t)
theorem fp3_get {R : V → PyData → List Addr → Prop} : ∀ {vs : List V} {ds : List PyData} {fs : List Addr} {i : Nat} {d : PyData}, Fp3 R vs ds fs → ds[i]? = some d → ∃ v f, vs[i]? = some v ∧ R v d f ∧ f.Sublist fs
  | _, _, _, _, _, .nil, e => by simp at e
  | _, _, _, 0, _, .cons h _, e => by simp at e; subst e; exact ⟨_, _, rfl, h, List.sublist_append_left _ _⟩
  | _, _, _, i + 1, d, .cons _ t, e => by
    obtain ⟨v, f, e1, h1, s1⟩ := fp3_get (i := i) (d := d) t (by simpa using e)
    exact ⟨v, f, by simpa using e1, h1, s1.trans (List.sublist_append_right _ _)⟩
section
variable {K : PySem.W.Frag} {B : Option Bx} {F H Fs Hs : Hp} {x : V} {xs : List PyData} {md : Md} {f : List Addr}
theorem TR.list (t : TR K B F H x (.list xs) md f) (w : Wf K B F H) : ∃ a vs, x = .ref a ∧ H a = some (.lst vs) ∧ nb B a ∧ RpAll K (era B H) vs xs := by
  have h := t.read w
  cases h with
  | lst h1 h2 =>
    obtain ⟨q, n⟩ := era_of h1
    exact ⟨_, _, rfl, q, n, h2⟩
theorem TR.items (t : TR K B F H x (.list xs) md f) (k : okL xs md = true) (e : Ext K B Fs Hs F H) (fr : ∀ a ∈ f, Hs a = none) :
    ∃ a vs, x = .ref a ∧ H a = some (.lst vs) ∧ Ext K B Fs Hs (frz F H f) H ∧ Same F (frz F H f) ∧ RpAll K (frz F H f) vs xs := by
  cases md with
  | o m =>
    obtain ⟨e1, s1, h⟩ := t.give e fr
    cases h with
    | lst h1 h2 => exact ⟨_, _, rfl, e1.wf.fh _ _ h1, e1, s1, h2⟩
  | b =>
    obtain ⟨a, vs, ex, h1, _, h2⟩ := t.list e.wf
    have e0 := t.2.2.2
    subst e0
    exact ⟨a, vs, ex, h1, e.frz (fun _ h => by simp at h) (fun _ h => by simp at h) (fun _ h => by simp at h), frz_same fun _ h => by simp at h, rpAll_sc h2 k⟩
theorem TR.tuple (t : TR K B F H x (.tuple xs) md f) (w : Wf K B F H) : ∃ a vs, x = .ref a ∧ SqT K H a vs ∧ RpAll K (era B H) vs xs := by
  have h := t.read w
  cases h with
  | tup h1 h2 => exact ⟨_, _, rfl, rp_mono.seqT era_sub h1, h2⟩
theorem TR.tuple0 {m : Nat} (t : TR K B F H x (.tuple xs) (.o m) f) : ∃ a vs, x = .ref a ∧ SqT K F a vs ∧ RpAll K F vs xs ∧ f = [] := by
  obtain ⟨h, e⟩ := own_notlist t.2.2 rfl
  cases h with
  | tup h1 h2 => exact ⟨_, _, rfl, h1, h2, e⟩
theorem TR.tupleK (t : TR K B F H x (.tuple xs) md f) (k : okL xs md = true) (w : Wf K B F H) : ∃ a vs, x = .ref a ∧ SqT K H a vs ∧ RpAll K F vs xs ∧ f = [] := by
  cases md with
  | o m =>
    obtain ⟨a, vs, e1, e2, e3, e4⟩ := t.tuple0
    exact ⟨a, vs, e1, rp_mono.seqT w.fh e2, e3, e4⟩
  | b =>
    obtain ⟨a, vs, e1, e2, e3⟩ := t.tuple w
    exact ⟨a, vs, e1, e2, rpAll_sc e3 k, t.2.2.2⟩
theorem newL {p : Addr} {vs : List V} (e : Ext K B Fs Hs F H) (n : H p = none) (h : RpAll K F vs xs) :
    Ext K B Fs Hs F (upd H p (.lst vs)) ∧ TR K B F (upd H p (.lst vs)) (.ref p) (.list xs) (.o 1) [p] ∧ ∀ a ∈ [p], Hs a = none := by
  have nB := e.wf.new n
  refine ⟨e.trans (.laid e.wf n), ⟨by simp, fun a ha => ?_, p, vs, [], rfl, upd_same, ?_, fp3_0 h, rfl⟩, fun a ha => ?_⟩
  · have q : a = p := by simpa using ha
    rw [q]; exact nB
  · exact e.wf.fh.free n
  · have q : a = p := by simpa using ha
    rw [q]; exact e.old nB n
theorem newLb {p : Addr} {vs : List V} (e : Ext K B Fs Hs F H) (n : H p = none) (h : RpAll K (era B H) vs xs) :
    Ext K B Fs Hs F (upd H p (.lst vs)) ∧ TR K B F (upd H p (.lst vs)) (.ref p) (.list xs) .b [] ∧ ∀ a ∈ ([] : List Addr), Hs a = none := by
  have nB := e.wf.new n
  have ex := Ext.laid (o := .lst vs) e.wf n
  refine ⟨e.trans ex, ⟨by simp, fun a ha => by simp at ha, .lst ?_ (rpAll_mono ex.era _ _ h), rfl⟩, fun a ha => by simp at ha⟩
  rw [era_nb nB]; exact upd_same
theorem newT {p : Addr} {vs : List V} (e : Ext K B Fs Hs F H) (n : H p = none) (h : RpAll K F vs xs) :
    Ext K B Fs Hs (upd F p (.tup vs)) (upd H p (.tup vs)) ∧ TR K B (upd F p (.tup vs)) (upd H p (.tup vs)) (.ref p) (.tuple xs) (.o 0) [] := by
  have ex := Ext.laidF (o := .tup vs) e.wf n
  exact ⟨e.trans ex, .of (.tup (SqT.of upd_same) (rpAll_mono ex.ff _ _ h))⟩
theorem newTb {p : Addr} {vs : List V} (e : Ext K B Fs Hs F H) (n : H p = none) (h : RpAll K (era B H) vs xs) :
    Ext K B Fs Hs F (upd H p (.tup vs)) ∧ TR K B F (upd H p (.tup vs)) (.ref p) (.tuple xs) .b [] := by
  have nB := e.wf.new n
  have ex := Ext.laid (o := .tup vs) e.wf n
  refine ⟨e.trans ex, ⟨by simp, fun a ha => by simp at ha, .tup (SqT.of ?_) (rpAll_mono ex.era _ _ h), rfl⟩⟩
  rw [era_nb nB]; exact upd_same
end
theorem okL_of_b {xs : List PyData} (h : okL xs .b = true) : xs.all sc = true := h

def isO : Md → Bool
  | .o _ => true
  | .b => false
def aAdd : Op2 := fun d1 m1 d2 m2 Q => match d1, d2 with
  | .int i, .int j => Q (.int (i + j)) (.o 0)
  | .str x, .str y => x.length + y.length ≤ sizeLine ∧ Q (.str (x ++ y)) (.o 0)
  | .list xs, .list ys => xs.length + ys.length ≤ sizeLine ∧ Q (.list (xs ++ ys)) (jn (okL xs m1) (okL ys m2))
  | .tuple xs, .tuple ys => isO m1 = true ∧ isO m2 = true ∧ xs.length + ys.length ≤ sizeLine ∧ Q (.tuple (xs ++ ys)) (.o 0)
  | _, _ => False
def rAddA (K : PySem.W.Frag) : R2 := fun x y H Q => (rI0 (fun i j => .int (i + j)) x y H Q ∨ (∃ i j, x = .str i ∧ y = .str j ∧ i.length + j.length ≤ sizeLine ∧ Q (.str (i ++ j)) H)) ∨ (rCat x y H Q ∨ rCatA K x y H Q)
theorem op_addA {X : Cx} : OpR X (binaryOp .Add) (rAddA X.K) := (op_add.or op_add_str).or (op_cat.or op_catA)
theorem rpAll_nil {K : PySem.W.Frag} {H : Hp} {vs : List V} {ds : List PyData} (h : RpAll K H vs ds) (e : vs = []) : ds = [] := by
  subst e
  cases h
  rfl
theorem opa_add {X : Cx} : OpA X (rAddA X.K) aAdd := by
  intro B Fs Hs F H x y d1 d2 m1 m2 f1 f2 Q Q' ex r1 r2 n1 n2 dj hw k
  unfold aAdd at hw
  split at hw
  · have h1 := r1.read ex.wf
    have h2 := r2.read ex.wf
    cases h1
    cases h2
    exact .inl (.inl ⟨_, _, rfl, rfl, k _ F H _ _ [] ex (.of (.int _)) (fun _ h => by simp at h) hw⟩)
  · have h1 := r1.read ex.wf
    have h2 := r2.read ex.wf
    cases h1
    cases h2
    exact .inl (.inr ⟨_, _, rfl, rfl, hw.1, k _ F H _ _ [] ex (.of (.str _)) (fun _ h => by simp at h) hw.2⟩)
  · rename_i xs ys
    obtain ⟨hz, hq⟩ := hw
    refine .inr (.inl ?_)
    by_cases c1 : okL xs m1 = true
    · by_cases c2 : okL ys m2 = true
      · obtain ⟨a, vs, e1, h1, ex1, s1, q1⟩ := r1.items c1 ex n1
        have r2' := r2.beside (l := f1) (fun a ha => (r1.live a ha).2) fun a ha hb => dj a hb ha
        obtain ⟨b, us, e2, h2, ex2, s2, q2⟩ := r2'.items c2 ex1 n2
        refine ⟨a, b, vs, us, e1, e2, h1, h2, by rw [rpAll_len q1, rpAll_len q2]; exact hz, fun p np => ?_⟩
        obtain ⟨x1, x2, x3⟩ := newL ex2 np (rpAll_app (rpAll_mono s2 _ _ q1) q2)
        rw [c1, c2] at hq
        exact k _ _ _ _ _ _ x1 x2 x3 hq
      · obtain ⟨a, vs, e1, h1, _, q1⟩ := r1.list ex.wf
        obtain ⟨b, us, e2, h2, _, q2⟩ := r2.list ex.wf
        refine ⟨a, b, vs, us, e1, e2, h1, h2, by rw [rpAll_len q1, rpAll_len q2]; exact hz, fun p np => ?_⟩
        obtain ⟨x1, x2, x3⟩ := newLb ex np (rpAll_app q1 q2)
        rw [show jn (okL xs m1) (okL ys m2) = .b by simp [jn, c2]] at hq
        exact k _ _ _ _ _ _ x1 x2 x3 hq
    · obtain ⟨a, vs, e1, h1, _, q1⟩ := r1.list ex.wf
      obtain ⟨b, us, e2, h2, _, q2⟩ := r2.list ex.wf
      refine ⟨a, b, vs, us, e1, e2, h1, h2, by rw [rpAll_len q1, rpAll_len q2]; exact hz, fun p np => ?_⟩
      obtain ⟨x1, x2, x3⟩ := newLb ex np (rpAll_app q1 q2)
      rw [show jn (okL xs m1) (okL ys m2) = .b by simp [jn, c1]] at hq
      exact k _ _ _ _ _ _ x1 x2 x3 hq
  · rename_i xs ys
    obtain ⟨c1, c2, hz, hq⟩ := hw
    cases m1 with
    | b => exact absurd c1 (by simp [isO])
    | o m1 =>
      cases m2 with
      | b => exact absurd c2 (by simp [isO])
      | o m2 =>
        obtain ⟨a, vs, e1, h1, q1, e3⟩ := r1.tuple0
        obtain ⟨b, us, e2, h2, q2, e4⟩ := r2.tuple0
        have t1 := (own_notlist r1.2.2 rfl).1
        have t2 := (own_notlist r2.2.2 rfl).1
        refine .inr (.inr ⟨a, b, vs, us, e1, e2, rp_mono.seqT ex.wf.fh h1, rp_mono.seqT ex.wf.fh h2, by rw [rpAll_len q1, rpAll_len q2]; exact hz, fun z => ?_, fun _ z => ?_, fun _ _ p np => ?_⟩)
        · have z' := rpAll_nil q1 z
          subst z' e2
          exact k _ F H _ (.o 0) [] ex (.of t2) (fun _ h => by simp at h) hq
        · have z' := rpAll_nil q2 z
          subst z' e1
          rw [List.append_nil] at hq
          exact k _ F H _ (.o 0) [] ex (.of t1) (fun _ h => by simp at h) hq
        · obtain ⟨x1, x2⟩ := newT ex np (rpAll_app q1 q2)
          exact k _ _ _ _ _ [] x1 x2 (fun _ h => by simp at h) hq
  · exact hw.elim
section
variable {X : Cx} {e1 e2 : Expr} {u v : WE} {pos : Pos}
theorem te_add (h1 : TrE X e1 u) (h2 : TrE X e2 v) : TrE X (.BinOp e1 .Add e2 pos) (w2 aAdd u v) := te_op op_addA opa_add h1 h2
def aSub : Op2 := aI0 fun i j => .int (i - j)
theorem te_sub (h1 : TrE X e1 u) (h2 : TrE X e2 v) : TrE X (.BinOp e1 .Sub e2 pos) (w2 aSub u v) := te_op op_sub (opa_I0 fun _ _ _ => .int _) h1 h2
def aDiv : Op2 := aI (fun i j => .int (i / j)) fun _ j => 0 < j ∧ j < 1073741824
theorem te_div (h1 : TrE X e1 u) (h2 : TrE X e2 v) : TrE X (.BinOp e1 .FloorDiv e2 pos) (w2 aDiv u v) := te_op op_fdiv (opa_I (fun _ _ _ => .int _) fun _ _ h => h) h1 h2
def aDivN : Op2 := aI (fun i j => .int (i.fdiv j)) fun _ j => j ≠ 0 ∧ j.natAbs < 1073741824
theorem te_divN (h1 : TrE X e1 u) (h2 : TrE X e2 v) : TrE X (.BinOp e1 .FloorDiv e2 pos) (w2 aDivN u v) := te_op op_fdivN (opa_I (fun _ _ _ => .int _) fun _ _ h => h) h1 h2
def aMod : Op2 := aI (fun i j => .int (i % j)) fun _ j => 0 < j
theorem te_mod (h1 : TrE X e1 u) (h2 : TrE X e2 v) : TrE X (.BinOp e1 .Mod e2 pos) (w2 aMod u v) := te_op op_mod (opa_I (fun _ _ _ => .int _) fun _ _ h => h) h1 h2
def aModN : Op2 := aI (fun i j => .int (i.fmod j)) fun _ j => j ≠ 0
theorem te_modN (h1 : TrE X e1 u) (h2 : TrE X e2 v) : TrE X (.BinOp e1 .Mod e2 pos) (w2 aModN u v) := te_op op_modN (opa_I (fun _ _ _ => .int _) fun _ _ h => h) h1 h2
def aPow : Op2 := aI (fun i j => .int (i ^ j.toNat)) fun i j => 0 ≤ j ∧ j ≤ 1000000 ∧ i.natAbs < 2 ^ 64
theorem te_pow (h1 : TrE X e1 u) (h2 : TrE X e2 v) : TrE X (.BinOp e1 .Pow e2 pos) (w2 aPow u v) := te_op op_pow (opa_I (fun _ _ _ => .int _) fun _ _ h => h) h1 h2
def aMul : Op2 := aI (fun i j => .int (i * j)) fun i j => (-18446744073709551616 < i ∧ i < 18446744073709551616) ∨ (-18446744073709551616 < j ∧ j < 18446744073709551616)
theorem te_mul (h1 : TrE X e1 u) (h2 : TrE X e2 v) : TrE X (.BinOp e1 .Mult e2 pos) (w2 aMul u v) := te_op op_mul (opa_I (fun _ _ _ => .int _) fun _ _ h => h) h1 h2
end
def aRep : Op2 := fun d1 m1 d2 _ Q => match d1, d2 with
  | .list xs, .int k => -9223372036854775808 ≤ k ∧ k < 9223372036854775808 ∧ xs.length * k.toNat ≤ sizeLine ∧ Q (.list (List.replicate k.toNat xs).flatten) (jn (okL xs m1) true)
  | _, _ => False
theorem rpAll_rep {K : PySem.W.Frag} {H : Hp} {vs : List V} {ds : List PyData} (h : RpAll K H vs ds) : ∀ n : Nat, RpAll K H (List.replicate n vs).flatten (List.replicate n ds).flatten
  | 0 => .nil
  | n + 1 => by
    rw [List.replicate_succ, List.replicate_succ, List.flatten_cons, List.flatten_cons]
    exact rpAll_app h (rpAll_rep h n)
theorem opa_rep {X : Cx} : OpA X rRep aRep := by
  intro B Fs Hs F H x y d1 d2 m1 m2 f1 f2 Q Q' ex r1 r2 n1 n2 dj hw k
  unfold aRep at hw
  split at hw
  · rename_i xs n
    obtain ⟨g1, g2, hz, hq⟩ := hw
    have h2 := r2.read ex.wf
    cases h2
    by_cases c1 : okL xs m1 = true
    · obtain ⟨a, vs, e1, h1, ex1, s1, q1⟩ := r1.items c1 ex n1
      refine ⟨a, n, vs, e1, rfl, h1, g1, g2, by rw [rpAll_len q1]; exact hz, fun p np => ?_⟩
      obtain ⟨x1, x2, x3⟩ := newL ex1 np (rpAll_rep q1 n.toNat)
      rw [c1] at hq
      exact k _ _ _ _ _ _ x1 x2 x3 hq
    · obtain ⟨a, vs, e1, h1, _, q1⟩ := r1.list ex.wf
      refine ⟨a, n, vs, e1, rfl, h1, g1, g2, by rw [rpAll_len q1]; exact hz, fun p np => ?_⟩
      obtain ⟨x1, x2, x3⟩ := newLb ex np (rpAll_rep q1 n.toNat)
      rw [show jn (okL xs m1) true = .b by simp [jn, c1]] at hq
      exact k _ _ _ _ _ _ x1 x2 x3 hq
  · exact hw.elim
theorem te_rep {X : Cx} {e1 e2 : Expr} {u v : WE} {pos : Pos} (h1 : TrE X e1 u) (h2 : TrE X e2 v) : TrE X (.BinOp e1 .Mult e2 pos) (w2 aRep u v) := te_op op_rep opa_rep h1 h2
def wNeg (u : WE) : WE := fun st Q => u st fun d _ => match d with
  | .int i => Q (.int (-i)) (.o 0)
  | _ => False
theorem te_neg {X : Cx} {e : Expr} {u : WE} {pos : Pos} (h : TrE X e u) : TrE X (.UnaryOp .USub e pos) (wNeg u) := by
  obtain ⟨t1, p1, s1⟩ := h.run
  refine ⟨_, pe_un un_neg p1, fun B F0 H0 F H σ st Q Q' R hw k => s1 B F0 H0 F H σ st _ _ R hw fun x F1 H1 d md f x1 r1 n1 hq => ?_⟩
  split at hq
  · have h1 := r1.read x1.wf
    cases h1
    exact ⟨_, rfl, k _ F1 H1 _ _ [] x1 (.of (.int _)) (fun _ h => by simp at h) hq⟩
  · exact hq.elim
section
variable {X : Cx} {e1 e2 : Expr} {u v : WE} {pos : Pos}
def aLt : Op2 := fun d1 _ d2 _ Q => match d1, d2 with
  | .int i, .int j => Q (.bool (decide (i < j))) (.o 0)
  | .str i, .str j => Q (.bool (decide (i.cps.toList < j.cps.toList))) (.o 0)
  | _, _ => False
def aLe : Op2 := fun d1 _ d2 _ Q => match d1, d2 with
  | .int i, .int j => Q (.bool (decide (i ≤ j))) (.o 0)
  | .str i, .str j => Q (.bool (!decide (j.cps.toList < i.cps.toList))) (.o 0)
  | _, _ => False
def aGt : Op2 := fun d1 _ d2 _ Q => match d1, d2 with
  | .int i, .int j => Q (.bool (decide (j < i))) (.o 0)
  | .str i, .str j => Q (.bool (decide (j.cps.toList < i.cps.toList))) (.o 0)
  | _, _ => False
def aGe : Op2 := fun d1 _ d2 _ Q => match d1, d2 with
  | .int i, .int j => Q (.bool (decide (j ≤ i))) (.o 0)
  | .str i, .str j => Q (.bool (!decide (i.cps.toList < j.cps.toList))) (.o 0)
  | _, _ => False
theorem opa_lt : OpA X (fun x y H Q => rI0 (fun i j => .bl (decide (i < j))) x y H Q ∨ ∃ i j, x = .str i ∧ y = .str j ∧ Q (.bl (decide (i.cps.toList < j.cps.toList))) H) aLt := by
  refine opa_read fun H x y d1 d2 m1 m2 Q Q' h1 h2 hw k => ?_
  unfold aLt at hw
  split at hw
  · cases h1; cases h2; exact .inl ⟨_, _, rfl, rfl, k _ _ (fun _ => .bl _) hw⟩
  · cases h1; cases h2; exact .inr ⟨_, _, rfl, rfl, k _ _ (fun _ => .bl _) hw⟩
  · exact hw.elim
theorem opa_le : OpA X (fun x y H Q => rI0 (fun i j => .bl (decide (i ≤ j))) x y H Q ∨ ∃ i j, x = .str i ∧ y = .str j ∧ Q (.bl (!decide (j.cps.toList < i.cps.toList))) H) aLe := by
  refine opa_read fun H x y d1 d2 m1 m2 Q Q' h1 h2 hw k => ?_
  unfold aLe at hw
  split at hw
  · cases h1; cases h2; exact .inl ⟨_, _, rfl, rfl, k _ _ (fun _ => .bl _) hw⟩
  · cases h1; cases h2; exact .inr ⟨_, _, rfl, rfl, k _ _ (fun _ => .bl _) hw⟩
  · exact hw.elim
theorem opa_gt : OpA X (fun x y H Q => rI0 (fun i j => .bl (decide (j < i))) x y H Q ∨ ∃ i j, x = .str i ∧ y = .str j ∧ Q (.bl (decide (j.cps.toList < i.cps.toList))) H) aGt := by
  refine opa_read fun H x y d1 d2 m1 m2 Q Q' h1 h2 hw k => ?_
  unfold aGt at hw
  split at hw
  · cases h1; cases h2; exact .inl ⟨_, _, rfl, rfl, k _ _ (fun _ => .bl _) hw⟩
  · cases h1; cases h2; exact .inr ⟨_, _, rfl, rfl, k _ _ (fun _ => .bl _) hw⟩
  · exact hw.elim
theorem opa_ge : OpA X (fun x y H Q => rI0 (fun i j => .bl (decide (j ≤ i))) x y H Q ∨ ∃ i j, x = .str i ∧ y = .str j ∧ Q (.bl (!decide (i.cps.toList < j.cps.toList))) H) aGe := by
  refine opa_read fun H x y d1 d2 m1 m2 Q Q' h1 h2 hw k => ?_
  unfold aGe at hw
  split at hw
  · cases h1; cases h2; exact .inl ⟨_, _, rfl, rfl, k _ _ (fun _ => .bl _) hw⟩
  · cases h1; cases h2; exact .inr ⟨_, _, rfl, rfl, k _ _ (fun _ => .bl _) hw⟩
  · exact hw.elim
theorem or_lt : OpR X (compareOp .Lt) (fun x y H Q => rI0 (fun i j => .bl (decide (i < j))) x y H Q ∨ ∃ i j, x = .str i ∧ y = .str j ∧ Q (.bl (decide (i.cps.toList < j.cps.toList))) H) := op_lt.or op_lt_str
theorem or_le : OpR X (compareOp .LtE) (fun x y H Q => rI0 (fun i j => .bl (decide (i ≤ j))) x y H Q ∨ ∃ i j, x = .str i ∧ y = .str j ∧ Q (.bl (!decide (j.cps.toList < i.cps.toList))) H) := op_le.or op_le_str
theorem or_gt : OpR X (compareOp .Gt) (fun x y H Q => rI0 (fun i j => .bl (decide (j < i))) x y H Q ∨ ∃ i j, x = .str i ∧ y = .str j ∧ Q (.bl (decide (j.cps.toList < i.cps.toList))) H) := op_gt.or op_gt_str
theorem or_ge : OpR X (compareOp .GtE) (fun x y H Q => rI0 (fun i j => .bl (decide (j ≤ i))) x y H Q ∨ ∃ i j, x = .str i ∧ y = .str j ∧ Q (.bl (!decide (i.cps.toList < j.cps.toList))) H) := op_ge.or op_ge_str
theorem te_lt (h1 : TrE X e1 u) (h2 : TrE X e2 v) : TrE X (.Compare e1 [.Lt] [e2] pos) (w2 aLt u v) := te_cmp or_lt opa_lt h1 h2
theorem te_le (h1 : TrE X e1 u) (h2 : TrE X e2 v) : TrE X (.Compare e1 [.LtE] [e2] pos) (w2 aLe u v) := te_cmp or_le opa_le h1 h2
theorem te_gt (h1 : TrE X e1 u) (h2 : TrE X e2 v) : TrE X (.Compare e1 [.Gt] [e2] pos) (w2 aGt u v) := te_cmp or_gt opa_gt h1 h2
theorem te_ge (h1 : TrE X e1 u) (h2 : TrE X e2 v) : TrE X (.Compare e1 [.GtE] [e2] pos) (w2 aGe u v) := te_cmp or_ge opa_ge h1 h2
theorem tt_lt (h1 : TrE X e1 u) (h2 : TrE X e2 v) : TrT X (.Compare e1 [.Lt] [e2] pos) (wTst (w2 aLt u v)) := tt_cmp or_lt opa_lt h1 h2
theorem tt_le (h1 : TrE X e1 u) (h2 : TrE X e2 v) : TrT X (.Compare e1 [.LtE] [e2] pos) (wTst (w2 aLe u v)) := tt_cmp or_le opa_le h1 h2
theorem tt_gt (h1 : TrE X e1 u) (h2 : TrE X e2 v) : TrT X (.Compare e1 [.Gt] [e2] pos) (wTst (w2 aGt u v)) := tt_cmp or_gt opa_gt h1 h2
theorem tt_ge (h1 : TrE X e1 u) (h2 : TrE X e2 v) : TrT X (.Compare e1 [.GtE] [e2] pos) (wTst (w2 aGe u v)) := tt_cmp or_ge opa_ge h1 h2
def dEq : PyData → PyData → Bool
  | .int i, .int j => decide (i = j)
  | .str i, .str j => decide (i = j)
  | .bool i, .bool j => decide (i = j)
  | d, e => PyData.eqv d e
def dEqOk : PyData → PyData → Bool
  | .int _, .int _ => true
  | .str _, .str _ => true
  | .bool _, .bool _ => true
  | d, e => SeqAt.shaped d && SeqAt.shaped e
def aEq : Op2 := fun d1 _ d2 _ Q => dEqOk d1 d2 = true ∧ Q (.bool (dEq d1 d2)) (.o 0)
def aNe : Op2 := fun d1 _ d2 _ Q => dEqOk d1 d2 = true ∧ Q (.bool (!dEq d1 d2)) (.o 0)
theorem opa_eq : OpA X (fun x y H Q => rEq x y H Q ∨ rEqD X.K x y H Q) aEq := by
  refine opa_read fun H x y d1 d2 m1 m2 Q Q' h1 h2 hw k => ?_
  obtain ⟨ho, hq⟩ := hw
  unfold dEqOk at ho
  split at ho
  · cases h1; cases h2
    refine .inl ⟨rfl, k _ _ (fun _ => .bl _) ?_⟩
    rw [dec_int]
    exact hq
  · cases h1; cases h2
    refine .inl ⟨rfl, k _ _ (fun _ => .bl _) ?_⟩
    rw [dec_str]
    exact hq
  · cases h1; cases h2
    refine .inl ⟨rfl, k _ _ (fun _ => .bl _) ?_⟩
    rw [dec_bl]
    exact hq
  · rename_i a1 a2 a3
    rw [Bool.and_eq_true] at ho
    refine .inr ⟨d1, d2, Rp.dp _ _ h1 (nod_shaped ho.1), Rp.dp _ _ h2 (nod_shaped ho.2), ho.1, ho.2, k _ _ (fun _ => .bl _) ?_⟩
    unfold dEq at hq
    split at hq
    · exact absurd rfl (a1 _ _ rfl)
    · exact absurd rfl (a2 _ _ rfl)
    · exact absurd rfl (a3 _ _ rfl)
    · exact hq
theorem opa_ne : OpA X (fun x y H Q => rNe x y H Q ∨ rNeD X.K x y H Q) aNe := by
  refine opa_read fun H x y d1 d2 m1 m2 Q Q' h1 h2 hw k => ?_
  obtain ⟨ho, hq⟩ := hw
  unfold dEqOk at ho
  split at ho
  · cases h1; cases h2
    refine .inl ⟨rfl, k _ _ (fun _ => .bl _) ?_⟩
    rw [dec_int]
    exact hq
  · cases h1; cases h2
    refine .inl ⟨rfl, k _ _ (fun _ => .bl _) ?_⟩
    rw [dec_str]
    exact hq
  · cases h1; cases h2
    refine .inl ⟨rfl, k _ _ (fun _ => .bl _) ?_⟩
    rw [dec_bl]
    exact hq
  · rename_i a1 a2 a3
    rw [Bool.and_eq_true] at ho
    refine .inr ⟨d1, d2, Rp.dp _ _ h1 (nod_shaped ho.1), Rp.dp _ _ h2 (nod_shaped ho.2), ho.1, ho.2, k _ _ (fun _ => .bl _) ?_⟩
    unfold dEq at hq
    split at hq
    · exact absurd rfl (a1 _ _ rfl)
    · exact absurd rfl (a2 _ _ rfl)
    · exact absurd rfl (a3 _ _ rfl)
    · exact hq
theorem te_eq (hu : X.A.units + 64 < cLine) (h1 : TrE X e1 u) (h2 : TrE X e2 v) : TrE X (.Compare e1 [.Eq] [e2] pos) (w2 aEq u v) := te_cmp (op_eq.or (op_eqD hu)) opa_eq h1 h2
theorem te_ne (hu : X.A.units + 64 < cLine) (h1 : TrE X e1 u) (h2 : TrE X e2 v) : TrE X (.Compare e1 [.NotEq] [e2] pos) (w2 aNe u v) := te_cmp (op_ne.or (op_neD hu)) opa_ne h1 h2
theorem tt_eq (hu : X.A.units + 64 < cLine) (h1 : TrE X e1 u) (h2 : TrE X e2 v) : TrT X (.Compare e1 [.Eq] [e2] pos) (wTst (w2 aEq u v)) := tt_cmp (op_eq.or (op_eqD hu)) opa_eq h1 h2
theorem tt_ne (hu : X.A.units + 64 < cLine) (h1 : TrE X e1 u) (h2 : TrE X e2 v) : TrT X (.Compare e1 [.NotEq] [e2] pos) (wTst (w2 aNe u v)) := tt_cmp (op_ne.or (op_neD hu)) opa_ne h1 h2
def dIn (d : PyData) : PyData → Bool
  | .list ds => ds.any fun z => dEq z d
  | .tuple ds => ds.any fun z => dEq z d
  | .str z => match d with
    | .str x => !(Builtin.Str.occurrences z x 0 z.length 1).isEmpty
    | _ => false
  | _ => false
def dInOk (d : PyData) : PyData → Bool
  | .list ds => SeqAt.shaped d && SeqAt.shaped (.list ds)
  | .tuple ds => SeqAt.shaped d && SeqAt.shaped (.tuple ds)
  | .str _ => match d with
    | .str _ => true
    | _ => false
  | _ => false
theorem dEq_eqv (a b : PyData) : dEq a b = PyData.eqv a b := by
  unfold dEq
  split
  · rename_i i j; simp only [PyData.eqv]; rfl
  · rename_i i j; simp only [PyData.eqv]; rfl
  · rename_i i j; simp only [PyData.eqv]; rfl
  · rfl
def aIn : Op2 := fun d1 _ d2 _ Q => dInOk d1 d2 = true ∧ Q (.bool (dIn d1 d2)) (.o 0)
def aNotIn : Op2 := fun d1 _ d2 _ Q => dInOk d1 d2 = true ∧ Q (.bool (!dIn d1 d2)) (.o 0)
def rInT (K : PySem.W.Frag) : R2 := fun x y H Q => ∃ d ds, Dp K H x d ∧ Dp K H y (.tuple ds) ∧ SeqAt.shaped d = true ∧ SeqAt.shaped (.tuple ds) = true ∧ Q (.bl (ds.any fun z => PyData.eqv z d)) H
def rNotInT (K : PySem.W.Frag) : R2 := fun x y H Q => ∃ d ds, Dp K H x d ∧ Dp K H y (.tuple ds) ∧ SeqAt.shaped d = true ∧ SeqAt.shaped (.tuple ds) = true ∧ Q (.bl (!ds.any fun z => PyData.eqv z d)) H
theorem op_inT (hu : X.A.units + 65 < cLine) : OpR X (compareOp .In) (rInT X.K) := by
  intro pins s σ H x y v u Q I r1 r2 ⟨d, ds, h1, h2, o1, o2, q⟩
  obtain ⟨as, g1⟩ := Dp.reads I d x v h1 r1
  obtain ⟨bs, g2⟩ := Dp.reads I (.tuple ds) y u h2 r2
  exact SeqAt.in_tuple_reads g2 g1 (SeqAt.canLay_of_shaped o2) (SeqAt.canLay_of_shaped o1) (room_in_shaped o1 hu) ⟨.bl _, H, I, rfl, q⟩
theorem op_notInT (hu : X.A.units + 65 < cLine) : OpR X (compareOp .NotIn) (rNotInT X.K) := by
  intro pins s σ H x y v u Q I r1 r2 ⟨d, ds, h1, h2, o1, o2, q⟩
  obtain ⟨as, g1⟩ := Dp.reads I d x v h1 r1
  obtain ⟨bs, g2⟩ := Dp.reads I (.tuple ds) y u h2 r2
  exact SeqAt.notIn_tuple_reads g2 g1 (SeqAt.canLay_of_shaped o2) (SeqAt.canLay_of_shaped o1) (room_in_shaped o1 hu) ⟨.bl _, H, I, rfl, q⟩
theorem opa_in : OpA X (fun x y H Q => (rInD X.K x y H Q ∨ rInT X.K x y H Q) ∨ ∃ i j, x = .str i ∧ y = .str j ∧ Q (.bl (!(Builtin.Str.occurrences j i 0 j.length 1).isEmpty)) H) aIn := by
  refine opa_read fun H x y d1 d2 m1 m2 Q Q' h1 h2 hw k => ?_
  obtain ⟨ho, hq⟩ := hw
  unfold dInOk at ho
  split at ho
  · rename_i ds
    rw [Bool.and_eq_true] at ho
    refine .inl (.inl ⟨d1, ds, Rp.dp _ _ h1 (nod_shaped ho.1), Rp.dp _ _ h2 (nod_shaped ho.2), ho.1, ho.2, k _ _ (fun _ => .bl _) ?_⟩)
    unfold dIn at hq
    simp only [dEq_eqv] at hq
    exact hq
  · rename_i ds
    rw [Bool.and_eq_true] at ho
    refine .inl (.inr ⟨d1, ds, Rp.dp _ _ h1 (nod_shaped ho.1), Rp.dp _ _ h2 (nod_shaped ho.2), ho.1, ho.2, k _ _ (fun _ => .bl _) ?_⟩)
    unfold dIn at hq
    simp only [dEq_eqv] at hq
    exact hq
  · split at ho
    · cases h1; cases h2
      exact .inr ⟨_, _, rfl, rfl, k _ _ (fun _ => .bl _) hq⟩
    · exact absurd ho (by simp)
  · exact absurd ho (by simp)
theorem opa_notIn : OpA X (fun x y H Q => (rNotInD X.K x y H Q ∨ rNotInT X.K x y H Q) ∨ ∃ i j, x = .str i ∧ y = .str j ∧ Q (.bl (!(!(Builtin.Str.occurrences j i 0 j.length 1).isEmpty))) H) aNotIn := by
  refine opa_read fun H x y d1 d2 m1 m2 Q Q' h1 h2 hw k => ?_
  obtain ⟨ho, hq⟩ := hw
  unfold dInOk at ho
  split at ho
  · rename_i ds
    rw [Bool.and_eq_true] at ho
    refine .inl (.inl ⟨d1, ds, Rp.dp _ _ h1 (nod_shaped ho.1), Rp.dp _ _ h2 (nod_shaped ho.2), ho.1, ho.2, k _ _ (fun _ => .bl _) ?_⟩)
    unfold dIn at hq
    simp only [dEq_eqv] at hq
    exact hq
  · rename_i ds
    rw [Bool.and_eq_true] at ho
    refine .inl (.inr ⟨d1, ds, Rp.dp _ _ h1 (nod_shaped ho.1), Rp.dp _ _ h2 (nod_shaped ho.2), ho.1, ho.2, k _ _ (fun _ => .bl _) ?_⟩)
    unfold dIn at hq
    simp only [dEq_eqv] at hq
    exact hq
  · split at ho
    · cases h1; cases h2
      exact .inr ⟨_, _, rfl, rfl, k _ _ (fun _ => .bl _) hq⟩
    · exact absurd ho (by simp)
  · exact absurd ho (by simp)
theorem te_in (hu : X.A.units + 65 < cLine) (h1 : TrE X e1 u) (h2 : TrE X e2 v) (hm : behindInMarks .In e2 = false := by rfl) : TrE X (.Compare e1 [.In] [e2] pos) (w2 aIn u v) := te_cmp (((op_inD hu).or (op_inT hu)).or op_in_str) opa_in h1 h2 hm
theorem te_notIn (hu : X.A.units + 65 < cLine) (h1 : TrE X e1 u) (h2 : TrE X e2 v) (hm : behindInMarks .NotIn e2 = false := by rfl) : TrE X (.Compare e1 [.NotIn] [e2] pos) (w2 aNotIn u v) := te_cmp (((op_notInD hu).or (op_notInT hu)).or op_notin_str) opa_notIn h1 h2 hm
theorem tt_in (hu : X.A.units + 65 < cLine) (h1 : TrE X e1 u) (h2 : TrE X e2 v) (hm : behindInMarks .In e2 = false := by rfl) : TrT X (.Compare e1 [.In] [e2] pos) (wTst (w2 aIn u v)) := tt_cmp (((op_inD hu).or (op_inT hu)).or op_in_str) opa_in h1 h2 hm
theorem tt_notIn (hu : X.A.units + 65 < cLine) (h1 : TrE X e1 u) (h2 : TrE X e2 v) (hm : behindInMarks .NotIn e2 = false := by rfl) : TrT X (.Compare e1 [.NotIn] [e2] pos) (wTst (w2 aNotIn u v)) := tt_cmp (((op_notInD hu).or (op_notInT hu)).or op_notin_str) opa_notIn h1 h2 hm
def dNon : PyData → Bool
  | .none => true
  | _ => false
def wIsN (u : WE) : WE := fun st Q => u st fun d _ => Q (.bool (dNon d)) (.o 0)
def wNotN (u : WE) : WE := fun st Q => u st fun d _ => Q (.bool (!dNon d)) (.o 0)
theorem non_iff {K : PySem.W.Frag} {H : Hp} {x : V} {d : PyData} (h : Rp K H x d) : decide (x = V.non) = dNon d := by
  cases h with
  | non => exact decide_eq_true rfl
  | bl _ => exact decide_eq_false fun z => nomatch z
  | int _ => exact decide_eq_false fun z => nomatch z
  | str _ => exact decide_eq_false fun z => nomatch z
  | lst _ _ => exact decide_eq_false fun z => nomatch z
  | tup _ _ => exact decide_eq_false fun z => nomatch z
  | dct _ _ _ => exact decide_eq_false fun z => nomatch z
theorem runN {neg : Bool} {t : TE} (s : ∀ B F0 H0 F H σ st Q (Q' : VK), SR X.K B F0 H0 F H σ st → u st Q → (∀ v F' H' d md fp, Ext X.K B F H F' H' → TR X.K B F' H' v d md fp → (∀ a ∈ fp, H a = none) → Q d md → Q' v H') → t σ H Q') :
    ∀ B F0 H0 F H σ st Q (Q' : VK), SR X.K B F0 H0 F H σ st → (if neg then wNotN u else wIsN u) st Q → (∀ v F' H' d md fp, Ext X.K B F H F' H' → TR X.K B F' H' v d md fp → (∀ a ∈ fp, H a = none) → Q d md → Q' v H') →
      t σ H fun x H1 => Q' (.bl (if neg then !decide (x = .non) else decide (x = .non))) H1 := by
  intro B F0 H0 F H σ st Q Q' R hw k
  cases neg with
  | false => exact s B F0 H0 F H σ st _ _ R hw fun x F1 H1 d md f x1 r1 n1 hq => k _ F1 H1 _ (.o 0) [] x1 (.of (by rw [if_neg Bool.false_ne_true, non_iff (r1.read x1.wf)]; exact .bl _)) (fun _ h => by simp at h) hq
  | true => exact s B F0 H0 F H σ st _ _ R hw fun x F1 H1 d md f x1 r1 n1 hq => k _ F1 H1 _ (.o 0) [] x1 (.of (by rw [if_pos rfl, non_iff (r1.read x1.wf)]; exact .bl _)) (fun _ h => by simp at h) hq
theorem te_isN {j p2} (h : TrE X e1 u) : TrE X (.Compare e1 [.Is] [.Constant .none j p2] pos) (wIsN u) := by
  obtain ⟨t, p, s⟩ := h.run
  exact ⟨_, pe_cmp (pc_isN p), runN (neg := false) s⟩
theorem te_notN {j p2} (h : TrE X e1 u) : TrE X (.Compare e1 [.IsNot] [.Constant .none j p2] pos) (wNotN u) := by
  obtain ⟨t, p, s⟩ := h.run
  exact ⟨_, pe_cmp (pc_notN p), runN (neg := true) s⟩
theorem tt_isN {j p2} (h : TrE X e1 u) : TrT X (.Compare e1 [.Is] [.Constant .none j p2] pos) (wTst (wIsN u)) := by
  obtain ⟨t, p, s⟩ := h.run
  exact ⟨_, pt_cmp (pc_isN p), tstB (runN (neg := false) s)⟩
theorem tt_notN {j p2} (h : TrE X e1 u) : TrT X (.Compare e1 [.IsNot] [.Constant .none j p2] pos) (wTst (wNotN u)) := by
  obtain ⟨t, p, s⟩ := h.run
  exact ⟨_, pt_cmp (pc_notN p), tstB (runN (neg := true) s)⟩
end
end AL

namespace AL
open PySem PySem.Spec PyProof.Rows L2

def scm (d : PyData) : Md := if sc d then .o 0 else .b
def elm : Md → PyData → Md
  | .o (k + 1), _ => .o k
  | .o 0, _ => .o 0
  | .b, d => scm d
def elt : Md → PyData → Md
  | .o _, _ => .o 0
  | .b, d => scm d
def aIx : Op2 := fun d1 m1 d2 _ Q => match d1, d2 with
  | .list ds, .int i => match atI ds i with
    | some d => Q d (elm m1 d)
    | none => False
  | .tuple ds, .int i => match atI ds i with
    | some d => Q d (elt m1 d)
    | none => False
  | .str z, .int i => z.length ≤ sizeLine ∧ match atI z.cps.toList i with
    | some c => Q (.str ⟨#[c]⟩) (.o 0)
    | none => False
  | _, _ => False
theorem atI_rp {K : PySem.W.Frag} {H : Hp} {vs : List V} {ds : List PyData} {i : Int} {d : PyData} (h : RpAll K H vs ds) (e : atI ds i = some d) : ∃ v, atI vs i = some v ∧ Rp K H v d := by
  unfold atI at e ⊢
  rw [rpAll_len h]
  cases q : ixN ds.length i with
  | none => rw [q] at e; cases e
  | some j =>
    rw [q] at e
    obtain ⟨v, e1, h1⟩ := rpAll_get h (show ds[j]? = some d from e)
    exact ⟨v, e1, h1⟩
theorem atI_fp3 {R : V → PyData → List Addr → Prop} {vs : List V} {ds : List PyData} {fs : List Addr} {i : Int} {d : PyData} (h : Fp3 R vs ds fs) (e : atI ds i = some d) : ∃ v f, atI vs i = some v ∧ R v d f ∧ f.Sublist fs := by
  unfold atI at e ⊢
  rw [h.len]
  cases q : ixN ds.length i with
  | none => rw [q] at e; cases e
  | some j =>
    rw [q] at e
    obtain ⟨v, f, e1, h1⟩ := fp3_get h (show ds[j]? = some d from e)
    exact ⟨v, f, e1, h1⟩
theorem TR.scm {K : PySem.W.Frag} {B : Option Bx} {F H : Hp} {v : V} {d : PyData} (h : Rp K (era B H) v d) : TR K B F H v d (scm d) [] := by
  unfold AL.scm
  by_cases s : sc d = true
  · rw [if_pos s]; exact .of (rp_sc h s)
  · rw [if_neg s]; exact ⟨List.nodup_nil, fun _ h => by simp at h, h, rfl⟩
theorem opa_ix {X : Cx} : OpA X (rIx X.K) aIx := by
  intro B Fs Hs F H x y d1 d2 m1 m2 f1 f2 Q Q' ex r1 r2 n1 n2 dj hw k
  have h2 := r2.read ex.wf
  unfold aIx at hw
  split at hw
  · rename_i ds i
    cases h2
    split at hw
    · rename_i d hd
      refine .inl ?_
      cases m1 with
      | b =>
        obtain ⟨a, vs, e1, h1, nB, q1⟩ := r1.list ex.wf
        obtain ⟨v, q2, q3⟩ := atI_rp q1 hd
        exact ⟨a, vs, i, v, e1, rfl, SqL.of h1, q2, k v F H d _ [] ex (.scm q3) (fun _ h => by simp at h) hw⟩
      | o m =>
        cases m with
        | zero =>
          have h1 := r1.2.2.1
          cases h1 with
          | lst h1 q1 =>
            obtain ⟨v, q2, q3⟩ := atI_rp q1 hd
            exact ⟨_, _, i, v, rfl, rfl, SqL.of (ex.wf.fh _ _ h1), q2, k v F H d _ [] ex (.of q3) (fun _ h => by simp at h) hw⟩
        | succ m =>
          obtain ⟨a, vs, fs, e1, e2, e3, e4, e5⟩ := r1.2.2
          obtain ⟨v, f, q2, q3, q4⟩ := atI_fp3 e4 hd
          have hf : ∀ b ∈ f, b ∈ f1 := fun b hb => by rw [e5]; exact List.mem_cons_of_mem _ (q4.subset hb)
          have nd : f.Nodup := by
            have := r1.1
            rw [e5] at this
            exact q4.nodup (List.nodup_cons.mp this).2
          exact ⟨a, vs, i, v, e1, rfl, SqL.of e2, q2, k v F H d _ f ex ⟨nd, fun b hb => r1.2.1 b (hf b hb), q3⟩ (fun b hb => n1 b (hf b hb)) hw⟩
    · exact hw.elim
  · rename_i ds i
    cases h2
    split at hw
    · rename_i d hd
      refine .inr (.inl ?_)
      cases m1 with
      | b =>
        obtain ⟨a, vs, e1, h1, q1⟩ := r1.tuple ex.wf
        obtain ⟨v, q2, q3⟩ := atI_rp q1 hd
        exact ⟨a, vs, i, v, e1, rfl, h1, q2, k v F H d _ [] ex (.scm q3) (fun _ h => by simp at h) hw⟩
      | o m =>
        obtain ⟨a, vs, e1, h1, q1, _⟩ := r1.tuple0
        obtain ⟨v, q2, q3⟩ := atI_rp q1 hd
        exact ⟨a, vs, i, v, e1, rfl, rp_mono.seqT ex.wf.fh h1, q2, k v F H d _ [] ex (.of q3) (fun _ h => by simp at h) hw⟩
    · exact hw.elim
  · rename_i z i
    cases h2
    obtain ⟨hz, hw⟩ := hw
    split at hw
    · rename_i c hc
      have h1 := r1.read ex.wf
      cases h1
      exact .inr (.inr ⟨z, i, c, rfl, rfl, hz, hc, k _ F H _ _ [] ex (.of (.str _)) (fun _ h => by simp at h) hw⟩)
    · exact hw.elim
  · exact hw.elim
theorem te_at {X : Cx} {e1 e2 : Expr} {u v : WE} {pos : Pos} (h1 : TrE X e1 u) (h2 : TrE X e2 v) (hs : PlainIx e2 := by exact fun _ _ => rfl) : TrE X (.Subscript e1 e2 pos) (w2 aIx u v) := te_ix ix_seq opa_ix h1 h2 hs

abbrev WO := AS → (Option Int → Prop) → Prop
structure TrO (X : Cx) (e : Option Expr) (w : WO) : Prop where
  run : ∃ t, PO X e t ∧ ∀ B F0 H0 F H σ st Q (Q' : Option Int → Hp → Prop), SR X.K B F0 H0 F H σ st → w st Q → (∀ c F' H', Ext X.K B F H F' H' → Q c → Q' c H') → t σ H Q'
def wON : WO := fun _ Q => Q none
def wOS (u : WE) : WO := fun st Q => u st fun d _ => match d with
  | .int i => Q (some i)
  | _ => False
def cut {α : Type} (xs : List α) (lo hi : Option Int) : List α := (xs.drop (HT.sIx xs.length 0 lo)).take (HT.sIx xs.length xs.length hi - HT.sIx xs.length 0 lo)
def aSl (d : PyData) (m : Md) (lo hi : Option Int) (Q : QE) : Prop := match d with
  | .list xs => Q (.list (cut xs lo hi)) (jn (okL xs m) true)
  | .tuple xs => isO m = true ∧ Q (.tuple (cut xs lo hi)) (.o 0)
  | .str z => z.length ≤ sizeLine ∧ Q (.str (cutS z lo hi)) (.o 0)
  | _ => False
def wSl (u : WE) (lo hi : WO) : WE := fun st Q => u st fun d m => lo st fun l => hi st fun h => aSl d m l h Q
def rSlX (K : PySem.W.Frag) : V → Option Int → Option Int → Hp → VK → Prop := fun x lo hi H Q => rSlL K x lo hi H Q ∨ (rSlA K x lo hi H Q ∨ rSlS x lo hi H Q)
theorem rpAll_cut {K : PySem.W.Frag} {H : Hp} {vs : List V} {ds : List PyData} (h : RpAll K H vs ds) (lo hi : Option Int) : RpAll K H (cutV vs lo hi) (cut ds lo hi) := by
  unfold cutV cut
  rw [rpAll_len h]
  exact rpAll_take _ (rpAll_drop _ h)
section
variable {X : Cx} {e : Expr} {lo hi : Option Expr} {u : WE} {l h : WO} {pos p2 : Pos}
theorem to_none : TrO X none wON := ⟨_, po_none, fun B F0 H0 F H σ st Q Q' R hw k => k none F H (.refl R.wf) hw⟩
theorem to_some (he : TrE X e u) : TrO X (some e) (wOS u) := by
  obtain ⟨t, p, s⟩ := he.run
  refine ⟨_, po_some p, fun B F0 H0 F H σ st Q Q' R hw k => s B F0 H0 F H σ st _ _ R hw fun x F1 H1 d md f x1 r1 n1 hq => ?_⟩
  split at hq
  · have h1 := r1.read x1.wf
    cases h1
    exact ⟨_, rfl, k _ F1 H1 x1 hq⟩
  · exact hq.elim
theorem te_slice (he : TrE X e u) (hl : TrO X lo l) (hh : TrO X hi h) : TrE X (.Subscript e (.Slice lo hi none p2) pos) (wSl u l h) := by
  obtain ⟨t, p, s⟩ := he.run
  obtain ⟨tl, pl, sl⟩ := hl.run
  obtain ⟨th, ph, sh⟩ := hh.run
  have hr : SlR X (rSlX X.K) := sl_list.or (sl_tupA.or sl_str)
  refine ⟨_, pe_slice hr p pl ph, fun B F0 H0 F H σ st Q Q' R hw k => s B F0 H0 F H σ st _ _ R hw fun x F1 H1 d md f x1 r1 n1 hq1 => ?_⟩
  refine sl B F0 H0 F1 H1 σ st _ _ (R.go x1) hq1 fun lv F2 H2 x2 hq2 => ?_
  refine sh B F0 H0 F2 H2 σ st _ _ (R.go (x1.trans x2)) hq2 fun hv F3 H3 x3 hq => ?_
  clear hq1 hq2
  have r := (r1.ext x2).ext x3
  have ex := (x1.trans x2).trans x3
  unfold aSl at hq
  split at hq
  · rename_i xs
    refine .inl ?_
    by_cases c1 : okL xs md = true
    · obtain ⟨a, vs, e1, h1, ex1, s1, q1⟩ := r.items c1 ex n1
      refine ⟨a, vs, e1, SqL.of h1, fun p np => ?_⟩
      obtain ⟨y1, y2, y3⟩ := newL ex1 np (rpAll_cut q1 lv hv)
      rw [c1] at hq
      exact k _ _ _ _ _ _ y1 y2 y3 hq
    · obtain ⟨a, vs, e1, h1, _, q1⟩ := r.list ex.wf
      refine ⟨a, vs, e1, SqL.of h1, fun p np => ?_⟩
      obtain ⟨y1, y2, y3⟩ := newLb ex np (rpAll_cut q1 lv hv)
      rw [show jn (okL xs md) true = .b by simp [jn, c1]] at hq
      exact k _ _ _ _ _ _ y1 y2 y3 hq
  · rename_i xs
    obtain ⟨c1, hq⟩ := hq
    cases md with
    | b => exact absurd c1 (by simp [isO])
    | o m =>
      obtain ⟨a, vs, e1, h1, q1, _⟩ := r.tuple0
      have t1 := (own_notlist r.2.2 rfl).1
      refine .inr (.inl ⟨a, vs, e1, rp_mono.seqT ex.wf.fh h1, fun z => ?_, fun _ p np => ?_⟩)
      · rw [rpAll_len q1] at z
        have e2 : cut xs lv hv = xs := by
          unfold cut
          rw [z.1, z.2, List.drop_zero, Nat.sub_zero, List.take_length]
        rw [e2] at hq
        rw [← e1]
        exact k _ _ _ _ _ [] ex (.of t1) (fun _ h => by simp at h) hq
      · obtain ⟨y1, y2⟩ := newT ex np (rpAll_cut q1 lv hv)
        exact k _ _ _ _ _ [] y1 y2 (fun _ h => by simp at h) hq
  · rename_i z
    have h1 := r.read ex.wf
    cases h1
    exact .inr (.inr ⟨z, rfl, hq.1, k _ _ _ _ _ [] ex (.of (.str _)) (fun _ h => by simp at h) hq.2⟩)
  · exact hq.elim
end

def nl : PyData → Bool
  | .list _ => false
  | .dict _ => false
  | _ => true
def eOk : Nat → PyData → Md → Bool
  | 0, d, m => okK d m
  | m + 1, d, .o k => (k == m + 1) || nl d
  | _ + 1, d, .b => sc d
abbrev WL := AS → (List PyData → Prop) → Prop
structure TrL (X : Cx) (m : Nat) (es : List Expr) (w : WL) : Prop where
  run : ∃ t, PA X es t ∧ ∀ B F0 H0 F H σ st Q (Q' : List V → Hp → Prop), SR X.K B F0 H0 F H σ st → w st Q →
    (∀ vs F' H' ds fs, Ext X.K B F H F' H' → Fp3 (Own X.K F' H' m) vs ds fs → fs.Nodup → (∀ a ∈ fs, nb B a ∧ H a = none) → Q ds → Q' vs H') → t σ H Q'
def wLn : WL := fun _ Q => Q []
def wLc (m : Nat) (u : WE) (r : WL) : WL := fun st Q => u st fun d md => eOk m d md = true ∧ r st fun ds => Q (d :: ds)
theorem fp3_ext {K : PySem.W.Frag} {B : Option Bx} {F H F' H' : Hp} {m : Nat} {vs : List V} {ds : List PyData} {fs : List Addr} (h : Fp3 (Own K F H m) vs ds fs) (e : Ext K B F H F' H') (n : ∀ a ∈ fs, nb B a) : Fp3 (Own K F' H' m) vs ds fs :=
  h.mono fun v d f s r => own_mono e.ff m _ _ _ r (fun a ha o q => e.hh a o (n a (s a ha)) q) fun a ha hn => by
    cases q : F' a with
    | none => rfl
    | some o =>
      rcases e.nw a o q with z | z
      · rw [hn] at z; cases z
      · obtain ⟨⟨xs, hx⟩, _⟩ := own_live m _ _ _ r a ha
        rw [hx] at z; cases z
theorem own_ext {K : PySem.W.Frag} {B : Option Bx} {F H F' H' : Hp} {m : Nat} {v : V} {d : PyData} {f : List Addr} (h : Own K F H m v d f) (e : Ext K B F H F' H') (n : ∀ a ∈ f, nb B a) : Own K F' H' m v d f := by
  refine own_mono e.ff m _ _ _ h (fun a ha o q => e.hh a o (n a ha) q) fun a ha hn => ?_
  cases q : F' a with
  | none => rfl
  | some o =>
    rcases e.nw a o q with z | z
    · rw [hn] at z; cases z
    · obtain ⟨⟨xs, hx⟩, _⟩ := own_live m _ _ _ h a ha
      rw [hx] at z; cases z
theorem TR.item {K : PySem.W.Frag} {B : Option Bx} {F H Fs Hs : Hp} {v : V} {d : PyData} {md : Md} {f : List Addr} {m : Nat} (t : TR K B F H v d md f) (e : Ext K B Fs Hs F H) (n : ∀ a ∈ f, Hs a = none) (k : eOk m d md = true) :
    ∃ F' g, Ext K B Fs Hs F' H ∧ Ext K B Fs Hs F H ∧ Same F F' ∧ Own K F' H m v d g ∧ g.Nodup ∧ (∀ a ∈ g, nb B a ∧ Hs a = none) ∧ (∀ a ∈ g, a ∈ f) ∧ (∀ a, a ∉ f → F' a = F a) := by
  cases m with
  | zero =>
    obtain ⟨e1, s1, h⟩ := t.keep k e n
    exact ⟨_, [], e1, e, s1, own0 h, List.nodup_nil, fun _ h => by simp at h, fun _ h => by simp at h, fun a ha => frz_out ha⟩
  | succ m =>
    cases md with
    | b => exact ⟨F, [], e, e, Same.refl _, own_flat (t.scal e.wf k) (by have k : sc d = true := k; cases d <;> first | rfl | exact absurd k (by simp [sc])), List.nodup_nil, fun _ h => by simp at h, fun _ h => by simp at h, fun _ _ => rfl⟩
    | o j =>
      have k' : (j == m + 1) = true ∨ nl d = true := by simpa [eOk] using k
      rcases k' with k | k
      · have ej : j = m + 1 := by simpa using k
        subst ej
        exact ⟨F, f, e, e, Same.refl _, t.2.2, t.1, fun a ha => ⟨t.2.1 a ha, n a ha⟩, fun _ h => h, fun _ _ => rfl⟩
      · have hd : nld d = true := by cases d <;> first | rfl | exact absurd k (by simp [nl])
        obtain ⟨h1, h2⟩ := own_notlist t.2.2 hd
        exact ⟨F, [], e, e, Same.refl _, own_flat h1 hd, List.nodup_nil, fun _ h => by simp at h, fun _ h => by simp at h, fun _ _ => rfl⟩
section
variable {X : Cx} {e : Expr} {es : List Expr} {u : WE} {r : WL} {m : Nat} {pos : Pos}
theorem tl_nil : TrL X m [] wLn := ⟨_, pa_nil, fun B F0 H0 F H σ st Q Q' R hw k => k [] F H [] [] (.refl R.wf) .nil List.nodup_nil (fun _ h => by simp at h) hw⟩
theorem tl_cons (h1 : TrE X e u) (h2 : TrL X m es r) (hs : starEach (e :: es) X.env = (false, eval e X.env) :: starEach es X.env := by rfl) : TrL X m (e :: es) (wLc m u r) := by
  obtain ⟨t1, p1, s1⟩ := h1.run
  obtain ⟨t2, p2, s2⟩ := h2.run
  refine ⟨_, pa_cons p1 p2 hs, fun B F0 H0 F H σ st Q Q' R hw k => s1 B F0 H0 F H σ st _ _ R hw fun x F1 H1 d md f x1 r1 n1 hq => ?_⟩
  obtain ⟨hk, hq⟩ := hq
  obtain ⟨F1', g, e1, _, _, o1, nd1, fr1, _, _⟩ := r1.item x1 n1 hk
  refine s2 B F0 H0 F1' H1 σ st _ _ (R.go e1) hq fun vs F2 H2 ds fs x2 h2 nd2 fr2 hq => ?_
  refine k (x :: vs) F2 H2 (d :: ds) (g ++ fs) (e1.trans x2) (.cons (own_ext o1 x2 fun a ha => (fr1 a ha).1) h2) ?_ (fun a ha => ?_) hq
  · refine List.nodup_append.mpr ⟨nd1, nd2, fun a ha b hb q => ?_⟩
    subst q
    obtain ⟨⟨xs, hx⟩, _⟩ := own_live m _ _ _ o1 a ha
    rw [(fr2 a hb).2] at hx; cases hx
  · rcases List.mem_append.mp ha with q | q
    · exact fr1 a q
    · exact ⟨(fr2 a q).1, e1.old (fr2 a q).1 (fr2 a q).2⟩
def wLst (m : Nat) (w : WL) : WE := fun st Q => w st fun ds => ds.length ≤ sizeLine ∧ Q (.list ds) (.o (m + 1))
theorem te_lst (h : TrL X m es r) : TrE X (.List es pos) (wLst m r) := by
  obtain ⟨t, p, s⟩ := h.run
  refine ⟨_, pe_lst p, fun B F0 H0 F H σ st Q Q' R hw k => s B F0 H0 F H σ st _ _ R hw fun vs F1 H1 ds fs x1 o1 nd1 fr1 hq => ?_⟩
  refine ⟨by rw [o1.len]; exact hq.1, fun p np => ?_⟩
  have ex := Ext.laid (o := .lst vs) x1.wf np
  have nB := x1.wf.new np
  refine k _ F1 _ (.list ds) (.o (m + 1)) (p :: fs) (x1.trans ex) ⟨?_, fun a ha => ?_, p, vs, fs, rfl, upd_same, x1.wf.fh.free np, fp3_ext o1 ex fun a ha => (fr1 a ha).1, rfl⟩ (fun a ha => ?_) hq.2
  · refine List.nodup_cons.mpr ⟨fun hp => ?_, nd1⟩
    obtain ⟨⟨xs, hx⟩, _⟩ := fp3_live (fun v d f => own_live m v d f) o1 p hp
    rw [np] at hx; cases hx
  · rcases List.mem_cons.mp ha with q | q
    · rw [q]; exact nB
    · exact (fr1 a q).1
  · rcases List.mem_cons.mp ha with q | q
    · rw [q]; exact x1.old nB np
    · exact (fr1 a q).2
theorem fp3_rp0 {K : PySem.W.Frag} {F H : Hp} : ∀ {vs : List V} {ds : List PyData} {fs : List Addr}, Fp3 (Own K F H 0) vs ds fs → RpAll K F vs ds
  | _, _, _, .nil => .nil
  | _, _, _, .cons h t => .cons h.1 (fp3_rp0 t)
def wTup (w : WL) : WE := fun st Q => w st fun ds => ds.length ≤ sizeLine ∧ Q (.tuple ds) (.o 0)
theorem te_tup {x1} (h : TrL X 0 es r) : TrE X (.Tuple es x1 pos) (wTup r) := by
  obtain ⟨t, p, s⟩ := h.run
  refine ⟨_, pe_tup p, fun B F0 H0 F H σ st Q Q' R hw k => s B F0 H0 F H σ st _ _ R hw fun vs F1 H1 ds fs x1 o1 nd1 fr1 hq => ?_⟩
  refine ⟨by rw [o1.len]; exact hq.1, fun p np => ?_⟩
  obtain ⟨y1, y2⟩ := newT x1 np (fp3_rp0 o1)
  exact k _ _ _ _ _ [] y1 y2 (fun _ h => by simp at h) hq.2
end
end AL

namespace AL
open PySem PySem.Spec PyProof.Rows L2

def argv (d : PyData) : Md → SV
  | .o _ => .val d (.o 0)
  | .b => match sc d with
    | true => .val d (.o 0)
    | false => .val d .b
def wAn : WA := fun _ Q => Q []
def wAv (u : WE) (r : WA) : WA := fun st Q => u st fun d md => r st fun as => Q (argv d md :: as)
def wAs (i : Nat) (r : WA) : WA := fun st Q => match slot st i with
  | .scr ns => r st fun as => Q (.scr ns :: as)
  | _ => False
def wAb (i : Nat) (r : WA) : WA := fun st Q => match slot st i with
  | .box => r st fun as => Q (.box :: as)
  | _ => False
theorem argR_ext {K : PySem.W.Frag} {B : Option Bx} {F H F' H' : Hp} {v : V} {s : SV} (h : ArgR K B F H v s) (e : Ext K B F H F' H') : ArgR K B F' H' v s := by
  cases s with
  | dead => exact h
  | box => exact h
  | scr ns => exact let ⟨a, h1, h2⟩ := h; ⟨a, h1, e.ff.seq h2⟩
  | val d m =>
    cases m with
    | b => exact rp_mono e.era _ _ h
    | o m =>
      cases m with
      | zero => exact rp_mono e.ff _ _ h
      | succ _ => exact h
section
variable {X : Cx} {e : Expr} {es : List Expr} {u : WE} {r : WA} {pos : Pos}
theorem ta_nil : TrA X [] wAn := ⟨_, pa_nil, fun B F0 H0 F H σ st Q Q' R hw k => k [] F H [] (.refl R.wf) .nil hw⟩
theorem ta_cons (h1 : TrE X e u) (h2 : TrA X es r) (hs : starEach (e :: es) X.env = (false, eval e X.env) :: starEach es X.env := by rfl) : TrA X (e :: es) (wAv u r) := by
  obtain ⟨t1, p1, s1⟩ := h1.run
  obtain ⟨t2, p2, s2⟩ := h2.run
  refine ⟨_, pa_cons p1 p2 hs, fun B F0 H0 F H σ st Q Q' R hw k => s1 B F0 H0 F H σ st _ _ R hw fun x F1 H1 d md f x1 r1 n1 hq => ?_⟩
  have key : ∃ F1', Ext X.K B F H F1' H1 ∧ ArgR X.K B F1' H1 x (argv d md) := by
    cases md with
    | o m =>
      obtain ⟨e1, _, h⟩ := r1.give x1 n1
      exact ⟨_, e1, h⟩
    | b =>
      by_cases s : sc d = true
      · exact ⟨F1, x1, by rw [show argv d .b = .val d (.o 0) by unfold argv; rw [s]]; exact r1.scal x1.wf s⟩
      · exact ⟨F1, x1, by rw [show argv d .b = .val d .b by unfold argv; rw [Bool.eq_false_iff.mpr s]]; exact r1.2.2.1⟩
  obtain ⟨F1', e1, a1⟩ := key
  exact s2 B F0 H0 F1' H1 σ st _ _ (R.go e1) hq fun vs F2 H2 as x2 h2 hq => k (x :: vs) F2 H2 _ (e1.trans x2) (.cons (argR_ext a1 x2) h2) hq
theorem ta_box (i : Nat) {x : Str} (h2 : TrA X es r) (hN : X.N[i]? = some x := by rfl) (hv : Vis X.env.scope x := by first | exact Or.inl rfl | exact Or.inr (Or.inl rfl) | exact Or.inr (Or.inr rfl)) (hd : (x == ("__debug__" : Str)) = false := by decide)
    (hcd : (x == ("__classdict__" : Str)) = false := by decide) (hs : starEach (.Name x pos :: es) X.env = (false, eval (.Name x pos) X.env) :: starEach es X.env := by rfl) : TrA X (.Name x pos :: es) (wAb i r) := by
  obtain ⟨t2, p2, s2⟩ := h2.run
  refine ⟨_, pa_cons (pe_var hN hv hd hcd) p2 hs, fun B F0 H0 F H σ st Q Q' R hw k => ?_⟩
  unfold wAb at hw
  split at hw
  · rename_i hs
    obtain ⟨x, hb, hx⟩ := R.box i hs
    exact ⟨_, hx, s2 B F0 H0 F H σ st _ _ R hw fun vs F2 H2 as x2 h2 hq => k (_ :: vs) F2 H2 (.box :: as) x2 (.cons ⟨x, hb, rfl⟩ h2) hq⟩
  · exact hw.elim
theorem ta_scr (i : Nat) {x : Str} (h2 : TrA X es r) (hN : X.N[i]? = some x := by rfl) (hv : Vis X.env.scope x := by first | exact Or.inl rfl | exact Or.inr (Or.inl rfl) | exact Or.inr (Or.inr rfl)) (hd : (x == ("__debug__" : Str)) = false := by decide)
    (hcd : (x == ("__classdict__" : Str)) = false := by decide) (hs : starEach (.Name x pos :: es) X.env = (false, eval (.Name x pos) X.env) :: starEach es X.env := by rfl) : TrA X (.Name x pos :: es) (wAs i r) := by
  obtain ⟨t2, p2, s2⟩ := h2.run
  refine ⟨_, pa_cons (pe_var hN hv hd hcd) p2 hs, fun B F0 H0 F H σ st Q Q' R hw k => ?_⟩
  unfold wAs at hw
  split at hw
  · rename_i ns hs
    obtain ⟨a, hx, ha⟩ := R.scr i ns hs
    exact ⟨_, hx, s2 B F0 H0 F H σ st _ _ R hw fun vs F2 H2 as x2 h2 hq => k (_ :: vs) F2 H2 (.scr ns :: as) x2 (.cons ⟨a, rfl, x2.ff.seq ha⟩ h2) hq⟩
  · exact hw.elim
end
def ArgF (K : PySem.W.Frag) (B : Option Bx) (F : Hp) (v : V) : SV → Prop
  | .val d (.o 0) => Rp K F v d
  | .box => ∃ x, B = some x ∧ v = .ref x.b
  | .scr ns => ∃ a, v = .ref a ∧ SqL K F a (ns.map V.int)
  | _ => False
abbrev ASp := List SV → QE → Prop
def spOf (K : PySem.W.Frag) (n : Nat) (asp : ASp) : Sp := fun vs H Q _ => vs.length = n ∧ ∃ B F as Qa, Wf K B F H ∧ Paired (ArgF K B F) vs as ∧
  asp as Qa ∧ ∀ v F' H' d md fp, Ext K B F H F' H' → TR K B F' H' v d md fp → (∀ a ∈ fp, H a = none) → Qa d md → Q v H'
def isB : SV → Bool
  | .val _ .b => true
  | _ => false
def unb : SV → SV
  | .val d .b => .val d (.o 0)
  | s => s
def wCall (n : Nat) (asp : ASp) (wa : WA) : WE := fun st Q => wa st fun as => as.length = n ∧ match as.any isB with
  | false => asp as Q
  | true => asp (as.map unb) fun d _ => Q d (scm d)
theorem paired_len {α β : Type} {G : α → β → Prop} : ∀ {l₁ : List α} {l₂ : List β}, Paired G l₁ l₂ → l₁.length = l₂.length
  | _, _, .nil => rfl
  | _, _, .cons _ t => congrArg (· + 1) (paired_len t)
theorem argF_of {K : PySem.W.Frag} {B : Option Bx} {F H : Hp} : ∀ {vs : List V} {as : List SV}, Paired (ArgR K B F H) vs as → as.any isB = false → Paired (ArgF K B F) vs as
  | _, _, .nil, _ => .nil
  | _, _, .cons (b := s) h t, hb => by
    rw [List.any_cons, Bool.or_eq_false_iff] at hb
    refine .cons ?_ (argF_of t hb.2)
    cases s with
    | dead => exact h
    | box => exact h
    | scr ns => exact h
    | val d m =>
      cases m with
      | b => exact absurd hb.1 (by simp [isB])
      | o m =>
        cases m with
        | zero => exact h
        | succ _ => exact h
theorem argF_unb {K : PySem.W.Frag} {B : Option Bx} {F H : Hp} (w : Wf K B F H) : ∀ {vs : List V} {as : List SV}, Paired (ArgR K B F H) vs as → Paired (ArgF K B (era B H)) vs (as.map unb)
  | _, _, .nil => .nil
  | _, _, .cons (b := s) h t => by
    refine .cons ?_ (argF_unb w t)
    cases s with
    | dead => exact h
    | box => exact h
    | scr ns => exact let ⟨a, h1, h2⟩ := h; ⟨a, h1, w.sub.seq h2⟩
    | val d m =>
      cases m with
      | b => exact h
      | o m =>
        cases m with
        | zero => exact rp_mono w.sub _ _ h
        | succ _ => exact h
theorem Wf.era {K : PySem.W.Frag} {B : Option Bx} {F H : Hp} (w : Wf K B F H) : Wf K B (era B H) H := by
  refine ⟨era_sub, fun x e => ?_, w.bk, fun x e => w.sub _ _ (w.bd x e)⟩
  subst e
  show (if x.b = x.b then none else H x.b) = none
  rw [if_pos rfl]
section
variable {X : Cx} {k n : Nat} {f : Addr} {fd : FuncData} {ps : List Str} {asp : ASp} {x : Str} {p pos : Pos} {e : Expr} {es : List Expr} {wa : WA} {ds : List Value}
theorem te_call (G : FnOk X.prog X.w X.K X.mg X.base CX0 k f fd ps (spOf X.K n asp)) (hr : Room k X.A) (hg : Gl X x) (hm : X.mg x = some (.ref f)) (hk : PySem.W.keepIn X.K (.ref f) = true) (hb : L2.Binds X.K fd ps [])
    (ha : TrA X (e :: es) wa) (hdb : (x == ("__debug__" : Str)) = false := by decide) (he : starEach (e :: es) X.env = (false, eval e X.env) :: starEach es X.env := by rfl) (hpl : (backTo pos (starEach es X.env)).any (·.1) = false := by rfl) :
    TrE X (.Call (.Name x p) (e :: es) [] pos) (wCall n asp wa) := by
  obtain ⟨t, pa, s⟩ := ha.run
  refine ⟨_, pe_call G hr hg hm hk hb .nil pass0 pa hdb he hpl, fun B F0 H0 F H σ st Q Q' R hw k' => s B F0 H0 F H σ st _ _ R hw fun vs F1 H1 as x1 h1 hq => ?_⟩
  obtain ⟨hl, hq⟩ := hq
  show spOf X.K n asp (vs ++ []) H1 Q' E0
  rw [List.append_nil]
  refine ⟨(paired_len h1).trans hl, ?_⟩
  split at hq
  · rename_i hb
    exact ⟨B, F1, as, Q, x1.wf, argF_of h1 hb, hq, fun v F2 H2 d md fp x2 r2 n2 q2 => k' v F2 H2 d md fp (x1.trans x2) r2 (fun a ha => x1.old (r2.2.1 a ha) (n2 a ha)) q2⟩
  · refine ⟨B, era B H1, as.map unb, _, x1.wf.era, argF_unb x1.wf h1, hq, fun v F2 H2 d md fp x2 r2 n2 q2 => ?_⟩
    have hn : ∀ a o, F1 a = some o → H2 a = some o := fun a o q => x2.hh a o (x1.wf.nbF q) (x1.wf.fh _ _ q)
    have x3 : Ext X.K B F1 H1 F1 H2 := ⟨x2.hh, Same.refl _, fun _ _ h => .inl h, ⟨hn, x1.wf.bn, x2.wf.bk, x1.wf.bd⟩⟩
    exact k' v F1 H2 d (scm d) [] (x1.trans x3) (.scm (r2.read x2.wf)) (fun _ h => by simp at h) q2
end
theorem te_gl {X : Cx} {x : Str} {v : V} {u : Value} {d : PyData} {pos : Pos} (hg : Gl X x) (hm : X.mg x = some u) (r : RelV v u) (h : ∀ F, Rp X.K F v d) (hd : (x == ("__debug__" : Str)) = false := by decide) : TrE X (.Name x pos) (wC d) := te_c (pe_glob hg hm r hd) h

theorem paired_get' {α β : Type} {G : α → β → Prop} : ∀ {l₁ : List α} {l₂ : List β} {i : Nat} {b : β}, Paired G l₁ l₂ → l₂[i]? = some b → ∃ a, l₁[i]? = some a ∧ G a b
  | _, _, _, _, .nil, e => by simp at e
  | _, _, 0, _, .cons h _, e => by simp at e; subst e; exact ⟨_, rfl, h⟩
  | _, _, i + 1, b, .cons _ t, e => by
    obtain ⟨a, e1, h1⟩ := paired_get' (i := i) (b := b) t (by simpa using e)
    exact ⟨a, by simpa using e1, h1⟩
theorem slot_get : ∀ (st : AS) (i : Nat), slot st i = (st[i]?).getD .dead
  | [], _ => by simp [slot]
  | _ :: _, 0 => rfl
  | x :: r, i + 1 => by
    show slot r i = _
    rw [slot_get r i, List.getElem?_cons_succ]
def pad (n : Nat) (as : List SV) : AS := as ++ List.replicate (n - as.length) .dead
theorem slot_pad {n i : Nat} {as : List SV} {s : SV} (h : slot (pad n as) i = s) (hs : s ≠ .dead) : as[i]? = some s := by
  rw [slot_get] at h
  unfold pad at h
  by_cases z : i < as.length
  · rw [List.getElem?_append_left z] at h
    rw [List.getElem?_eq_getElem z] at h ⊢
    exact congrArg some h
  · rw [List.getElem?_append_right (Nat.le_of_not_lt z), List.getElem?_replicate] at h
    split at h
    · exact absurd h.symm hs
    · exact absurd h.symm hs
theorem start_get {N : List Str} {vs : List V} {i : Nat} {v : V} (h : vs[i]? = some v) : (L2.start N vs)[i]? = some (some v) := by
  unfold L2.start
  have hi : i < vs.length := (List.getElem?_eq_some_iff.mp h).1
  rw [List.getElem?_append_left (by rw [List.length_map]; exact hi), List.getElem?_map, h]
  rfl
theorem sr_start {K : PySem.W.Frag} {B : Option Bx} {F H : Hp} {N : List Str} {vs : List V} {as : List SV} (w : Wf K B F H) (p : Paired (ArgF K B F) vs as) (hn : vs.length ≤ N.length) : SR K B F H F H (L2.start N vs) (pad N.length as) := by
  have hl := paired_len p
  refine ⟨.refl w, ?_, ⟨fun _ => [], fun i d md h => ?_, fun _ _ => rfl, fun i j a h => by simp at h, fun i a h => by simp at h⟩, fun i h => ?_, fun i ns h => ?_⟩
  · unfold L2.start pad
    rw [List.length_append, List.length_append, List.length_map, List.length_replicate, List.length_replicate, hl]
  · have h1 := slot_pad h (by intro z; cases z)
    obtain ⟨v, e1, h2⟩ := paired_get' p h1
    refine ⟨v, start_get e1, ?_⟩
    cases md with
    | b => exact h2.elim
    | o m =>
      cases m with
      | succ _ => exact h2.elim
      | zero => exact .of h2
  · have h1 := slot_pad h (by intro z; cases z)
    obtain ⟨v, e1, h2⟩ := paired_get' p h1
    obtain ⟨x, h3, h4⟩ := h2
    subst h4
    exact ⟨x, h3, start_get e1⟩
  · have h1 := slot_pad h (by intro z; cases z)
    obtain ⟨v, e1, h2⟩ := paired_get' p h1
    obtain ⟨a, h3, h4⟩ := h2
    subst h3
    exact ⟨a, start_get e1, h4⟩
theorem noB_pad {K : PySem.W.Frag} {B : Option Bx} {F : Hp} {n : Nat} {vs : List V} {as : List SV} (p : Paired (ArgF K B F) vs as) : NoB (pad n as) := fun i d h => by
  have h1 := slot_pad h (by intro z; cases z)
  obtain ⟨v, e1, h2⟩ := paired_get' p h1
  exact h2
section
variable {P : Program} {w : World} {K : PySem.W.Frag} {mg : Str → Option Value} {base : Heap}
theorem fn_ok {x qual : Str} {st : Stmt} {f : Addr} {fd : FuncData} {N ps : List Str} {k : Nat} {asp : ASp} (F : Fun K x qual st f fd) (S : FnScope N ps (defScope st)) (hl : ps.length ≤ N.length)
    (hb : ∀ (cdv : Value) (A : Around) (outer : List Env) (s : Shared) (H : Hp) (E : XK), Room k (A.deeper (envOfC qual (defScope st) s.heap.objs.size f cdv)) →
      ∃ wb, TrB (cxOf CX0 P w K mg base N qual (defScope st) f cdv A outer s H E).nox (defBody st) wb ∧ ∀ as Q, as.length = ps.length → asp as Q → wb { nx := fun _ => Q .none (.o 0), rt := Q } (pad N.length as)) :
    FnOk P w K mg base CX0 (k + 1) f fd ps (spOf K ps.length asp) := by
  refine F.ok S (fun vs H Q E h => h.1) fun cdv A outer s H vs Q E hr h => ?_
  obtain ⟨hv, B, F1, as, Qa, wf, p, ha, hq⟩ := h
  obtain ⟨wb, tb, hw⟩ := hb cdv A outer s H E hr
  obtain ⟨t, ps', sd⟩ := tb.run
  refine ⟨t, ps', sd B F1 H F1 H (L2.start N vs) _ _ _ (sr_start wf p (by rw [hv]; exact hl)) (noB_pad p) (hw as Qa ((paired_len p).symm.trans hv) ha) ⟨fun σ' F' H' st' _ R _ q => ?_, fun _ _ _ _ _ _ _ q => q.elim, fun _ _ _ _ _ _ _ q => q.elim, fun v F' H' d md fp x r n q => hq v F' H' d md fp x r n q⟩⟩
  exact hq .non F' H' .none (.o 0) [] R.ext (.of .non) (fun _ h => by simp at h) q
end
end AL

namespace AL
open PySem PySem.Spec PyProof.Rows L2

def wNext : WS := fun D st => D.nx st
def wSeq (a b : WS) : WS := fun D st => a { D with nx := b D } st
section
variable {X : Cx} {s : Stmt} {ss : List Stmt} {a b : WS} {e : Expr} {u : WE} {c : WT} {pos : Pos}
theorem tb_nil : TrB X [] wNext := ⟨_, pss_nil, fun B F0 H0 F H σ st D D' R n hw k => k.nx σ F H st (Same.refl _) R n hw⟩
theorem tb_one (h : TrS X s a) : TrB X [s] a := by
  obtain ⟨t, p, sd⟩ := h.run
  exact ⟨t, pss_one p, sd⟩
theorem tb_cons (h1 : TrS X s a) (h2 : TrB X ss b) : TrB X (s :: ss) (wSeq a b) := by
  obtain ⟨t1, p1, s1⟩ := h1.run
  obtain ⟨t2, p2, s2⟩ := h2.run
  refine ⟨_, pss_cons p1 p2, fun B F0 H0 F H σ st D D' R n hw k => ?_⟩
  exact s1 B F0 H0 F H σ st _ _ R n hw ⟨fun σ' F' H' st' ss R' n' q => s2 B F0 H0 F' H' σ' st' D D' R' n' q (k.mono ss), k.bk, k.ct, k.rt⟩
def wFz (i : Nat) (a : WS) : WS := fun D st => a D (fzs st i)
theorem ts_fz (i : Nat) (h : TrS X s a) : TrS X s (wFz i a) := by
  obtain ⟨t, p, sd⟩ := h.run
  refine ⟨t, p, fun B F0 H0 F H σ st D D' R n hw k => ?_⟩
  obtain ⟨F', ss, R'⟩ := R.fz i
  exact sd B F0 H0 F' H σ _ D D' R' (noB_fz n) hw (k.mono ss)
def wForget (i : Nat) (a : WS) : WS := fun D st => a D (put st i .dead)
def wRet (u : WE) : WS := fun D st => u st D.rt
theorem ts_ret (h : TrE X e u) : TrS X (.Return (some e) pos) (wRet u) := by
  obtain ⟨t, p, sd⟩ := h.run
  refine ⟨_, ps_ret p, fun B F0 H0 F H σ st D D' R n hw k => sd B F0 H0 F H σ st _ _ R hw fun v F' H' d md fp x r fr q => ?_⟩
  exact k.rt v F' H' d md fp (R.ext.trans x) r (fun a ha => R.ext.old (r.2.1 a ha) (fr a ha)) q
def wRetV (i : Nat) : WS := fun D st => match slot st i with
  | .val d m => D.rt d m
  | _ => False
theorem ts_retV (i : Nat) {x : Str} {p : Pos} (hN : X.N[i]? = some x := by rfl) (hv : Vis X.env.scope x := by first | exact Or.inl rfl | exact Or.inr (Or.inl rfl) | exact Or.inr (Or.inr rfl)) (hd : (x == ("__debug__" : Str)) = false := by decide)
    (hcd : (x == ("__classdict__" : Str)) = false := by decide) : TrS X (.Return (some (.Name x p)) pos) (wRetV i) := by
  refine ⟨_, ps_ret (pe_var hN hv hd hcd), fun B F0 H0 F H σ st D D' R n hw k => ?_⟩
  unfold wRetV at hw
  split at hw
  · rename_i d m hs
    obtain ⟨v, fp, q1, t, fr⟩ := R.get hs
    exact ⟨v, q1, k.rt v F H d m fp R.ext t fr hw⟩
  · exact hw.elim
def wRetN : WS := fun D _ => D.rt .none (.o 0)
theorem ts_retN : TrS X (.Return none pos) wRetN := ⟨_, ps_retN, fun B F0 H0 F H σ st D D' R n hw k => k.rt .non F H .none (.o 0) [] R.ext (.of .non) (fun _ h => by simp at h) hw⟩
def wPass : WS := fun D st => D.nx st
theorem ts_pass : TrS X (.Pass pos) wPass := ⟨_, ps_pass, fun B F0 H0 F H σ st D D' R n hw k => k.nx σ F H st (Same.refl _) R n hw⟩
def wBrk : WS := fun D st => D.bk st
theorem ts_brk : TrS X (.Break pos) wBrk := ⟨_, ps_break, fun B F0 H0 F H σ st D D' R n hw k => k.bk σ F H st (Same.refl _) R n hw⟩
def wCnt : WS := fun D st => D.ct st
theorem ts_cnt : TrS X (.Continue pos) wCnt := ⟨_, ps_continue, fun B F0 H0 F H σ st D D' R n hw k => k.ct σ F H st (Same.refl _) R n hw⟩
def wIfS (c : WT) (a b : WS) : WS := fun D st => c st fun k => match k with
  | true => a D st
  | false => b D st
theorem ts_if {t : Expr} {s1 s2 : List Stmt} (h0 : TrT X t c) (h1 : TrB X s1 a) (h2 : TrB X s2 b) : TrS X (.If t s1 s2 pos) (wIfS c a b) := by
  obtain ⟨t0, p0, d0⟩ := h0.run
  obtain ⟨t1, p1, d1⟩ := h1.run
  obtain ⟨t2, p2, d2⟩ := h2.run
  refine ⟨_, ps_if p0 p1 p2, fun B F0 H0 F H σ st D D' R n hw k => d0 B F0 H0 F H σ st _ _ R hw fun q F1 H1 x hq => ?_⟩
  cases q with
  | true => exact iteT (d1 B F0 H0 F1 H1 σ st D D' (R.go x) n hq (k.mono x.ff))
  | false => exact iteF (d2 B F0 H0 F1 H1 σ st D D' (R.go x) n hq (k.mono x.ff))
def wDrop (u : WE) : WS := fun D st => u st fun _ _ => D.nx st
theorem ts_expr (h : TrE X e u) (hs : swapsWith e none pos.line X.env = pure false := by rfl) : TrS X (.Expr e pos) (wDrop u) := by
  obtain ⟨t, p, sd⟩ := h.run
  exact ⟨_, ps_expr p hs, fun B F0 H0 F H σ st D D' R n hw k => sd B F0 H0 F H σ st _ _ R hw fun v F' H' d md fp x r fr q => k.nx σ F' H' st x.ff (R.go x) n q⟩
theorem ts_doc {x j p2} : TrS X (.Expr (.Constant (.str x) j p2) pos) wNext := ⟨_, ps_doc, fun B F0 H0 F H σ st D D' R n hw k => k.nx σ F H st (Same.refl _) R n hw⟩
end
def keepM (own : Bool) (d : PyData) : Md → Option Nat
  | .o m => some (if own then m else 0)
  | .b => match sc d with
    | true => some 0
    | false => none
def wSet (i : Nat) (own : Bool) (u : WE) : WS := fun D st => u st fun d md => i < st.length ∧ match keepM own d md with
  | some m => D.nx (put st i (.val d (.o m)))
  | none => False
section
variable {K : PySem.W.Frag} {B : Option Bx} {F0 H0 F H F1 H1 : Hp} {σ : L2.St} {st : AS} {v : V} {d : PyData} {md : Md} {fp : List Addr} {i : Nat}
theorem SR.store (R : SR K B F0 H0 F H σ st) (n : NoB st) (x : Ext K B F H F1 H1) (r : TR K B F1 H1 v d md fp) (fr : ∀ a ∈ fp, H a = none) (hi : i < st.length) {own : Bool} {m : Nat} (hk : keepM own d md = some m) :
    ∃ F2, Same F F2 ∧ SR K B F0 H0 F2 H1 (σ.set i (some v)) (put st i (.val d (.o m))) := by
  cases md with
  | b =>
    cases s : sc d with
    | true =>
      have e : m = 0 := by simp only [keepM, s] at hk; exact (Option.some.inj hk).symm
      subst e
      exact ⟨F1, x.ff, R.set x (.of (r.scal x.wf s)) (fun _ h => by simp at h) hi⟩
    | false => simp only [keepM, s] at hk; cases hk
  | o j =>
    cases own with
    | true =>
      have e : j = m := Option.some.inj hk
      subst e
      exact ⟨F1, x.ff, R.set x r fr hi⟩
    | false =>
      have e : 0 = m := Option.some.inj hk
      subst e
      obtain ⟨x2, s2, h⟩ := r.give x fr
      exact ⟨_, x2.ff, R.set x2 (.of h) (fun _ h => by simp at h) hi⟩
end
section
variable {X : Cx} {e : Expr} {u : WE} {pos pos' : Pos}
theorem ts_set (i : Nat) (own : Bool) {x : Str} (h : TrE X e u) (hN : X.N.Nodup) (hi : X.N[i]? = some x := by rfl) (hx : Loc X.env.scope x := by first | exact Or.inl rfl | exact Or.inr rfl) (hs : swapsWith e (some (.Name x pos')) pos.line X.env = pure false := by rfl)
    (hf : X.fn x = true ∨ X.env.scope.names.lookup x = some .local := by first | exact .inl rfl | exact .inr rfl | assumption) : TrS X (.Assign [.Name x pos'] e pos) (wSet i own u) := by
  obtain ⟨t, p, sd⟩ := h.run
  refine ⟨_, ps_set hN hi hx p hs hf, fun B F0 H0 F H σ st D D' R n hw k => sd B F0 H0 F H σ st _ _ R hw fun v F' H' d md fp x r fr q => ?_⟩
  obtain ⟨hi', q⟩ := q
  split at q
  · rename_i m hk
    obtain ⟨F2, s2, R2⟩ := R.store n x r fr hi' hk
    exact k.nx _ F2 H' _ s2 R2 (noB_put n) q
  · exact q.elim
def wAug (i : Nat) (a : Op2) (u : WE) : WS := fun D st => match slot st i with
  | .val d1 m1 => u st fun d2 m2 => i < st.length ∧ a d1 (rdm m1) d2 m2 fun d md => match keepM false d md with
    | some m => D.nx (put st i (.val d (.o m)))
    | none => False
  | _ => False
def IpA (X : Cx) (op : Operator) (r : TIp) (a : Op2) : Prop := PIp X op r ∧ OpA X r a
theorem slot_lt {st : AS} {i : Nat} {d : PyData} {m : Md} (h : slot st i = .val d m) : i < st.length := by
  by_cases z : i < st.length
  · exact z
  · rw [slot_ge _ _ (Nat.le_of_not_lt z)] at h; cases h
theorem ts_aug (i : Nat) {x : Str} {op : Operator} {r : TIp} {a : Op2} (h : TrE X e u) (ho : IpA X op r a) (hN : X.N.Nodup) (hi : X.N[i]? = some x := by rfl) (hx : Loc X.env.scope x := by first | exact Or.inl rfl | exact Or.inr rfl)
    (hf : X.fn x = true ∨ X.env.scope.names.lookup x = some .local := by first | exact .inl rfl | exact .inr rfl | assumption) : TrS X (.AugAssign (.Name x pos') op e pos) (wAug i a u) := by
  obtain ⟨t, p, sd⟩ := h.run
  refine ⟨_, ps_aug hN hi hx p ho.1 hf, fun B F0 H0 F H σ st D D' R n hw k => ?_⟩
  unfold wAug at hw
  split at hw
  · rename_i d1 m1 hs
    obtain ⟨v, fp, q1, t1, fr1⟩ := R.get hs
    refine ⟨v, q1, sd B F0 H0 F H σ st _ _ R hw fun y F1 H1 d2 m2 f2 x1 r1 n1 hq => ?_⟩
    obtain ⟨hlt, hq⟩ := hq
    have tv : TR X.K B F1 H1 v d1 (rdm m1) [] := by
      have t1' := t1.ext x1
      cases m1 with
      | b => exact ⟨List.nodup_nil, fun _ h => by simp at h, t1'.2.2.1, rfl⟩
      | o m =>
        cases m with
        | zero => exact .of t1'.2.2.1
        | succ m => exact ⟨List.nodup_nil, fun _ h => by simp at h, t1'.read x1.wf, rfl⟩
    refine ho.2 B F H F1 H1 v y d1 d2 (rdm m1) m2 [] f2 _ _ x1 tv r1 (fun _ h => by simp at h) n1 (fun _ h => by simp at h) hq fun z F2 H2 d md fp x2 r2 n2 q => ?_
    split at q
    · rename_i m hk
      obtain ⟨F3, s3, R3⟩ := R.store n x2 r2 n2 hlt hk
      exact k.nx _ F3 H2 _ s3 R3 (noB_put n) q
    · exact q.elim
  · exact hw.elim
theorem ip_opa {r : R2} {op : Operator} {a : Op2} (ho : OpR X (inplaceOp op) r) (ha : OpA X r a) {tip : TIp} (ht : ∀ x y H Q, tip x y H Q → r x y H Q) (ht' : ∀ x y H Q, r x y H Q → tip x y H Q) : IpA X op tip a :=
  ⟨fun pins s σ H x y v u Q I r1 r2 h => ho pins s σ H x y v u Q I r1 r2 (ht _ _ _ _ h), fun B Fs Hs F H x y d1 d2 m1 m2 f1 f2 Q Q' ex t1 t2 n1 n2 dj hw k => ht' _ _ _ _ (ha B Fs Hs F H x y d1 d2 m1 m2 f1 f2 Q Q' ex t1 t2 n1 n2 dj hw k)⟩
def aIAdd : Op2 := fun d1 m1 d2 m2 Q => match d1, d2 with
  | .int i, .int j => Q (.int (i + j)) (.o 0)
  | .str x, .str y => x.length + y.length ≤ sizeLine ∧ Q (.str (x ++ y)) (.o 0)
  | _, _ => False
theorem ipa_add : IpA X .Add (fun x y H Q => rI0 (fun i j => .int (i + j)) x y H Q ∨ ∃ i j, x = .str i ∧ y = .str j ∧ i.length + j.length ≤ sizeLine ∧ Q (.str (i ++ j)) H) aIAdd := by
  refine ⟨iop_add.or iop_add_str, opa_read fun H x y d1 d2 m1 m2 Q Q' h1 h2 hw k => ?_⟩
  unfold aIAdd at hw
  split at hw
  · cases h1; cases h2; exact .inl ⟨_, _, rfl, rfl, k _ _ (fun _ => .int _) hw⟩
  · cases h1; cases h2; exact .inr ⟨_, _, rfl, rfl, hw.1, k _ _ (fun _ => .str _) hw.2⟩
  · exact hw.elim
theorem ipa_sub : IpA X .Sub (rI0 fun i j => .int (i - j)) aSub := ⟨iop_sub, opa_I0 fun _ _ _ => .int _⟩
theorem ipa_mul : IpA X .Mult (rI CMul fun i j => .int (i * j)) aMul := ⟨iop_mul, opa_I (fun _ _ _ => .int _) fun _ _ h => h⟩
end
end AL

namespace AL
open PySem PySem.Spec PyProof.Rows L2

theorem fp3_nodup_app {a b : List Addr} (ha : a.Nodup) (hb : b.Nodup) (d : ∀ x ∈ a, x ∉ b) : (a ++ b).Nodup := List.nodup_append.mpr ⟨ha, hb, fun x hx y hy q => d x hx (q ▸ hy)⟩
section
variable {K : PySem.W.Frag} {B : Option Bx} {F0 H0 Fe He F H : Hp} {σ : L2.St} {st : AS} {i m : Nat} {ds : List PyData}
theorem SR.write (R : SR K B F0 H0 Fe He σ st) (n : NoB st) (x : Ext K B Fe He F H) (hs : slot st i = .val (.list ds) (.o (m + 1))) : ∃ a xs fs, σ[i]? = some (some (.ref a)) ∧ H a = some (.lst xs) ∧ Fp3 (Own K F H m) xs ds fs ∧ a ∉ fs ∧ fs.Nodup ∧ (∀ b ∈ a :: fs, ∃ o, He b = some o) ∧ nb B a ∧ (∀ b ∈ fs, nb B b) ∧
    ∀ H' ds' fs' m', (∀ b o, b ∉ a :: fs → H b = some o → H' b = some o) → (∃ xs', H' a = some (.lst xs') ∧ Fp3 (Own K F H' m') xs' ds' fs') → fs'.Nodup → (∀ b ∈ fs', b ∈ fs ∨ (He b = none ∧ nb B b)) →
      SR K B F0 H0 F H' σ (put st i (.val (.list ds') (.o (m' + 1)))) := by
  obtain ⟨fpf, h1, h2, h3, h4⟩ := R.own
  have lv := fpf_live h1 h2
  have hi := slot_lt hs
  obtain ⟨v, q1, t⟩ := h1 i _ _ hs
  have live0 : ∀ b ∈ fpf i, ∃ o, He b = some o := fun b hb => by
    obtain ⟨⟨xs, hx⟩, _⟩ := lv i b hb
    exact ⟨_, hx⟩
  obtain ⟨nd, nbf, a, xs, fs, e1, e2, e3, e4, e5⟩ := t.ext x
  subst e1
  rw [e5] at nd nbf live0
  have nda := List.nodup_cons.mp nd
  refine ⟨a, xs, fs, q1, e2, e4, nda.1, nda.2, live0, nbf a (List.mem_cons_self ..), fun b hb => nbf b (List.mem_cons_of_mem _ hb), fun H' ds' fs' m' hk hx hd hf => ?_⟩
  have others : ∀ j, j ≠ i → ∀ b ∈ fpf j, b ∉ a :: fs := fun j hj b hb hm => hj (h3 j i b hb (by rw [e5]; exact hm))
  have nFs : ∀ b ∈ a :: fs, F b = none := fun b hb => by
    rcases List.mem_cons.mp hb with q | q
    · rw [q]; exact e3
    · exact (fp3_live (fun v d f => own_live m v d f) e4 b q).2
  have new' : ∀ b ∈ fs', ∀ j, b ∈ fpf j → j = i := fun b hb j hj => by
    rcases hf b hb with q | q
    · exact h3 j i b hj (by rw [e5]; exact List.mem_cons_of_mem _ q)
    · obtain ⟨⟨ys, hy⟩, _⟩ := lv j b hj
      rw [q.1] at hy; cases hy
  obtain ⟨xs', hx1, hx2⟩ := hx
  have nba : ∀ b ∈ a :: fs, nb B b := nbf
  have e0 : Ext K B F0 H0 F H := R.ext.trans x
  have exN : Ext K B F0 H0 F H' := by
    refine ⟨fun b o nbb hb => ?_, e0.ff, e0.nw, ⟨fun b o hb => hk b o (fun hm => ?_) (e0.wf.fh _ _ hb), e0.wf.bn, fun y hy => ?_, e0.wf.bd⟩⟩
    · refine hk b o (fun hm => ?_) (e0.hh b o nbb hb)
      rw [h4 i b (by rw [e5]; exact hm)] at hb; cases hb
    · rw [nFs b hm] at hb; cases hb
    · obtain ⟨k, k0, hk'⟩ := e0.wf.bk y hy
      exact ⟨k, k0, hk _ _ (fun hm => nba _ hm y hy rfl) hk'⟩
  refine ⟨exN, by rw [put_len]; exact R.len, ⟨ovr fpf i (a :: fs'), fun j d md q => ?_, fun j q => ?_, fun j k b hb hc => ?_, fun j b hb => ?_⟩, fun j q => ?_, fun j ns q => ?_⟩
  · by_cases z : j = i
    · subst z
      rw [slot_put_same _ _ _ hi] at q
      cases q
      refine ⟨_, q1, ?_⟩
      rw [ovr_eq rfl]
      refine ⟨List.nodup_cons.mpr ⟨fun hm => ?_, hd⟩, fun b hb => ?_, a, xs', fs', rfl, hx1, e3, hx2, rfl⟩
      · rcases hf a hm with q | q
        · exact nda.1 q
        · obtain ⟨o, ho⟩ := live0 a (List.mem_cons_self ..)
          rw [q.1] at ho; cases ho
      · rcases List.mem_cons.mp hb with q | q
        · rw [q]; exact nba a (List.mem_cons_self ..)
        · rcases hf b q with q | q
          · exact nba b (List.mem_cons_of_mem _ q)
          · exact q.2
    · rw [slot_put_ne _ _ _ _ z] at q
      obtain ⟨u, p1, p2⟩ := h1 j d md q
      refine ⟨u, p1, ?_⟩
      rw [ovr_ne z]
      have p3 := p2.ext x
      refine ⟨p3.1, p3.2.1, ?_⟩
      cases md with
      | b => exact absurd q (n j d)
      | o mm => exact own_mono (Same.refl _) mm _ _ _ p3.2.2 (fun b hb o ho => hk b o (others j z b hb) ho) fun _ _ h => h
  · by_cases z : j = i
    · subst z
      rw [slot_put_same _ _ _ hi] at q
      exact absurd rfl (q _ _)
    · rw [ovr_ne z]
      exact h2 j fun d' md' z' => q d' md' (by rw [slot_put_ne _ _ _ _ z]; exact z')
  · have mem_i : ∀ b, b ∈ a :: fs' → ∀ j, b ∈ fpf j → j = i := fun b hb j hj => by
      rcases List.mem_cons.mp hb with q | q
      · exact h3 j i b hj (by rw [e5, q]; exact List.mem_cons_self ..)
      · exact new' b q j hj
    by_cases z : j = i
    · rw [ovr_eq z] at hb
      by_cases y : k = i
      · rw [z, y]
      · rw [ovr_ne y] at hc
        exact absurd (mem_i b hb k hc) y
    · rw [ovr_ne z] at hb
      by_cases y : k = i
      · rw [ovr_eq y] at hc
        exact absurd (mem_i b hc j hb) z
      · rw [ovr_ne y] at hc
        exact h3 j k b hb hc
  · by_cases z : j = i
    · rw [ovr_eq z] at hb
      rcases List.mem_cons.mp hb with q | q
      · exact h4 i b (by rw [e5, q]; exact List.mem_cons_self ..)
      · rcases hf b q with q | q
        · exact h4 i b (by rw [e5]; exact List.mem_cons_of_mem _ q)
        · exact R.ext.old q.2 q.1
    · rw [ovr_ne z] at hb
      exact h4 j b hb
  · by_cases z : j = i
    · subst z
      rw [slot_put_same _ _ _ hi] at q; cases q
    · rw [slot_put_ne _ _ _ _ z] at q
      exact R.box j q
  · by_cases z : j = i
    · subst z
      rw [slot_put_same _ _ _ hi] at q; cases q
    · rw [slot_put_ne _ _ _ _ z] at q
      obtain ⟨y, p1, p2⟩ := R.scr j ns q
      exact ⟨y, p1, x.ff.seq p2⟩
end
theorem fp3_upd {K : PySem.W.Frag} {F H : Hp} {m : Nat} {vs : List V} {ds : List PyData} {fs : List Addr} {a : Addr} {o : HO} (h : Fp3 (Own K F H m) vs ds fs) (n : a ∉ fs) : Fp3 (Own K F (upd H a o) m) vs ds fs :=
  h.mono fun v d f s r => own_mono (Same.refl _) m _ _ _ r (fun b hb o' q => by rw [upd_ne (show b ≠ a from fun z => n (s a (by rw [← z]; exact hb)))]; exact q) fun _ _ q => q
theorem own_upd {K : PySem.W.Frag} {F H : Hp} {m : Nat} {v : V} {d : PyData} {f : List Addr} {a : Addr} {o : HO} (h : Own K F H m v d f) (n : a ∉ f) : Own K F (upd H a o) m v d f :=
  own_mono (Same.refl _) m _ _ _ h (fun b hb o' q => by rw [upd_ne (show b ≠ a from fun z => n (by rw [← z]; exact hb))]; exact q) fun _ _ q => q
theorem upd_keep {H : Hp} {a : Addr} {fs : List Addr} {o : HO} : ∀ b u, b ∉ a :: fs → H b = some u → upd H a o b = some u := fun b u hb h => by
  rw [upd_ne (show b ≠ a from fun z => hb (by rw [z]; exact List.mem_cons_self ..))]; exact h
theorem fp3_set {R : V → PyData → List Addr → Prop} : ∀ {vs : List V} {ds : List PyData} {fs g : List Addr} {p : Nat} {v : V} {d : PyData}, Fp3 R vs ds fs → R v d g → p < ds.length →
    ∃ fs', Fp3 R (vs.set p v) (ds.set p d) fs' ∧ (∀ b ∈ fs', b ∈ fs ∨ b ∈ g) ∧ (fs.Nodup → g.Nodup → (∀ b ∈ g, b ∉ fs) → fs'.Nodup)
  | _, _, _, _, _, _, _, .nil, _, h => absurd h (Nat.not_lt_zero _)
  | _, _, _, g, 0, _, _, .cons (f := f) (fs := fs) _ t, r, _ => ⟨g ++ fs, .cons r t, fun b hb => (List.mem_append.mp hb).elim .inr fun q => .inl (List.mem_append_right _ q), fun n1 n2 dj =>
      fp3_nodup_app n2 ((List.nodup_append.mp n1).2.1) fun x hx hy => dj x hx (List.mem_append_right _ hy)⟩
  | _, _, _, g, p + 1, _, _, .cons (f := f) (fs := fs) h t, r, hp => by
    obtain ⟨fs', h1, h2, h3⟩ := fp3_set (p := p) t r (Nat.lt_of_succ_lt_succ hp)
    refine ⟨f ++ fs', .cons h h1, fun b hb => ?_, fun n1 n2 dj => ?_⟩
    · rcases List.mem_append.mp hb with q | q
      · exact .inl (List.mem_append_left _ q)
      · exact (h2 b q).elim (fun z => .inl (List.mem_append_right _ z)) .inr
    · obtain ⟨a1, a2, a3⟩ := List.nodup_append.mp n1
      refine fp3_nodup_app a1 (h3 a2 n2 fun b hb hc => dj b hb (List.mem_append_right _ hc)) fun x hx hy => ?_
      rcases h2 x hy with q | q
      · exact a3 x hx x q rfl
      · exact dj x q (List.mem_append_left _ hx)
theorem fp3_refl0 {K : PySem.W.Frag} {F F' H : Hp} {m : Nat} {vs : List V} {ds : List PyData} {fs : List Addr} (h : Fp3 (Own K F H m) vs ds fs) (ff : Same F F') (hn : ∀ a ∈ fs, F' a = F a) : Fp3 (Own K F' H m) vs ds fs :=
  h.mono fun v d f s r => own_mono ff m _ _ _ r (fun _ _ _ q => q) fun b hb q => by rw [hn b (s b hb)]; exact q

def wApp (i : Nat) (u : WE) : WS := fun D st => match slot st i with
  | .val (.list ds) (.o (m + 1)) => u st fun d md => eOk m d md = true ∧ ds.length < sizeLine ∧ D.nx (put st i (.val (.list (ds ++ [d])) (.o (m + 1))))
  | _ => False
theorem SR.recv {K : PySem.W.Frag} {B : Option Bx} {F0 H0 F H : Hp} {σ : L2.St} {st : AS} {i m : Nat} {ds : List PyData} (R : SR K B F0 H0 F H σ st) (hs : slot st i = .val (.list ds) (.o (m + 1))) :
    ∃ a xs, σ[i]? = some (some (.ref a)) ∧ H a = some (.lst xs) ∧ xs.length = ds.length := by
  obtain ⟨v, fp, q1, t, _⟩ := R.get hs
  obtain ⟨_, _, a, xs, fs, e1, e2, e3, e4, e5⟩ := t
  subst e1
  exact ⟨a, xs, q1, e2, e4.len⟩
section
variable {X : Cx} {e e2 : Expr} {u v : WE} {pos p1 p2 p3 : Pos}
theorem ts_app (i : Nat) {x : Str} (h : TrE X e u) (hN : X.N[i]? = some x := by rfl) (hv : Vis X.env.scope x := by first | exact Or.inl rfl | exact Or.inr (Or.inl rfl) | exact Or.inr (Or.inr rfl))
    (hd : (x == ("__debug__" : Str)) = false := by decide) (hcd : (x == ("__classdict__" : Str)) = false := by decide)
    (hst : starEach [e] X.env = (false, eval e X.env) :: starEach [] X.env := by rfl)
    (hm : ∀ {to : TE} {t : TA}, PE X (.Name x p1) to → PA X [e] t → PE X (.Call (.Attribute (.Name x p1) "append" p2) [e] [] p3) (tBM X.K "list" rAppend to t))
    (hs : swapsWith (.Call (.Attribute (.Name x p1) "append" p2) [e] [] p3) none pos.line X.env = pure false := by rfl) :
    TrS X (.Expr (.Call (.Attribute (.Name x p1) "append" p2) [e] [] p3) pos) (wApp i u) := by
  obtain ⟨t, p, sd⟩ := h.run
  refine ⟨_, ps_expr (hm (pe_var hN hv hd hcd) (pa_cons p pa_nil hst)) hs, fun B F0 H0 F H σ st D D' R n hw k => ?_⟩
  unfold wApp at hw
  split at hw
  · rename_i ds m hsl
    obtain ⟨a, xs0, q1, q2, _⟩ := R.recv hsl
    refine ⟨_, q1, .inl ⟨rfl, _, SqL.of q2⟩, sd B F0 H0 F H σ st _ _ R hw fun y F1 H1 d md f x1 r1 n1 hq => ?_⟩
    obtain ⟨hk, hz, hq⟩ := hq
    obtain ⟨F2, g, x2, _, s2, o2, nd, fr, _, _⟩ := r1.item x1 n1 hk
    obtain ⟨a', xs, fs, w1, w2, w3, w4, w5, w6, w7, w8, w9⟩ := R.write n x2 hsl
    rw [q1] at w1
    obtain rfl : a = a' := by simpa using w1
    have hag : a ∉ g := fun hm => by
      obtain ⟨o, ho⟩ := w6 a (List.mem_cons_self ..)
      rw [(fr a hm).2] at ho; cases ho
    refine ⟨a, xs, y, rfl, rfl, w2, by rw [w3.len]; exact hz, ?_⟩
    refine k.nx σ F2 _ _ x2.ff (w9 _ _ (fs ++ (g ++ [])) m upd_keep ⟨_, upd_same, (fp3_upd w3 w4).app (.cons (own_upd o2 hag) .nil)⟩ ?_ fun b hb => ?_) (noB_put n) hq
    · rw [List.append_nil]
      refine fp3_nodup_app w5 nd fun b hb hc => ?_
      obtain ⟨o, ho⟩ := w6 b (List.mem_cons_of_mem _ hb)
      rw [(fr b hc).2] at ho; cases ho
    · rw [List.append_nil] at hb
      rcases List.mem_append.mp hb with q | q
      · exact .inl q
      · exact .inr ⟨(fr b q).2, (fr b q).1⟩
  · exact hw.elim

def wSetAt (i : Nat) (j : WE) (u : WE) : WS := fun D st => match slot st i with
  | .val (.list ds) (.o (m + 1)) => u st fun d md => j st fun dj _ => match dj with
    | .int z => eOk m d md = true ∧ match ixN ds.length z with
      | some p => D.nx (put st i (.val (.list (ds.set p d)) (.o (m + 1))))
      | none => False
    | _ => False
  | _ => False
theorem ixN_lt {n : Nat} {z : Int} {p : Nat} (h : ixN n z = some p) : p < n := (ixN_seq h).2.1
theorem ts_setAt (i : Nat) {x : Str} {j : Expr} (h : TrE X e u) (hj : TrE X j v) (hN : X.N[i]? = some x := by rfl) (hv : Vis X.env.scope x := by first | exact Or.inl rfl | exact Or.inr (Or.inl rfl) | exact Or.inr (Or.inr rfl))
    (hd : (x == ("__debug__" : Str)) = false := by decide) (hcd : (x == ("__classdict__" : Str)) = false := by decide)
    (ha : ∀ v, assign (.Subscript (.Name x p1) j p2) X.env v = (do
      let ov ← holding [v] (eval (.Name x p1) X.env)
      let iv ← holding [v, ov] (eval j X.env)
      standAt p2
      holding [v, ov, iv] (setItem ov iv v)
      release [v, ov, iv] []) := by intro _; rfl)
    (hs : swapsWithSole [.Subscript (.Name x p1) j p2] e pos.line X.env = pure false := by rfl) (hw : swappedStores [.Subscript (.Name x p1) j p2] e X.env = pure none := by rfl)
    (h1 : (assignEach [.Subscript (.Name x p1) j p2] X.env).map (·.2) = [assign (.Subscript (.Name x p1) j p2) X.env] := by rfl) :
    TrS X (.Assign [.Subscript (.Name x p1) j p2] e pos) (wSetAt i v u) := by
  obtain ⟨t, p, sd⟩ := h.run
  obtain ⟨tj, pj, sj⟩ := hj.run
  refine ⟨_, ps_asg p (pg_sub (pe_var hN hv hd hcd) pj set_list ha) hs hw h1, fun B F0 H0 F H σ st D D' R n hw k => ?_⟩
  unfold wSetAt at hw
  split at hw
  · rename_i ds m hsl
    refine sd B F0 H0 F H σ st _ _ R hw fun y F1 H1 d md f x1 r1 n1 hq1 => ?_
    have R1 := R.go x1
    obtain ⟨a, xs0, q1, q2, _⟩ := R1.recv hsl
    refine ⟨_, q1, sj B F0 H0 F1 H1 σ st _ _ R1 hq1 fun z F2 H2 dj mj fj x2 r2 n2 hq2 => ?_⟩
    split at hq2
    · rename_i z'
      obtain ⟨hk, hq⟩ := hq2
      split at hq
      · rename_i p hp
        have hz := r2.read x2.wf
        cases hz
        have x12 := x1.trans x2
        obtain ⟨F3, g, x3, _, s3, o3, nd, fr, _, _⟩ := (r1.ext x2).item x12 n1 hk
        obtain ⟨a', xs, fs, w1, w2, w3, w4, w5, w6, w7, w8, w9⟩ := R.write n x3 hsl
        rw [q1] at w1
        obtain rfl : a = a' := by simpa using w1
        have hag : a ∉ g := fun hm => by
          obtain ⟨o, ho⟩ := w6 a (List.mem_cons_self ..)
          rw [(fr a hm).2] at ho; cases ho
        obtain ⟨fs', s1, s2, s4⟩ := fp3_set (p := p) w3 o3 (ixN_lt hp)
        have ha' : a ∉ fs' := fun hm => (s2 a hm).elim w4 hag
        refine ⟨a, xs, z', p, rfl, rfl, w2, by rw [w3.len]; exact hp, k.nx σ F3 _ _ x3.ff (w9 _ _ fs' m upd_keep ⟨_, upd_same, fp3_upd s1 ha'⟩ (s4 w5 nd fun b hb hc => ?_) fun b hb => ?_) (noB_put n) hq⟩
        · obtain ⟨o, ho⟩ := w6 b (List.mem_cons_of_mem _ hc)
          rw [(fr b hb).2] at ho; cases ho
        · exact (s2 b hb).elim .inl fun q => .inr ⟨(fr b q).2, (fr b q).1⟩
      · exact hq.elim
    · exact hq2.elim
  · exact hw.elim
theorem pget_list : PGet X (rIxL X.K) := by
  intro pins s σ H o i ov iv Q I ro ri h
  obtain ⟨p, xs, i, z, rfl, rfl, hq, he, q⟩ := h
  cases ro
  obtain ⟨t, rfl⟩ := ri
  obtain ⟨its, r, pl, hz⟩ := I.list hq
  obtain ⟨j, h1, h2, h3, h4, h5⟩ := atI_get he
  obtain ⟨w, ew, rw'⟩ := r.get h2
  have hl := r.length
  have hn := line63
  have fin : EP X pins σ Q w s := ⟨z, H, I, rw', q⟩
  by_cases h0 : 0 ≤ i
  · have hj : i.toNat = j := by
      rw [seqIndex_of h0 h5] at h1
      exact Option.some.inj h1
    exact wpAny_getItem_list pl.isList h0 (by omega) (by rw [hj]; simpa using ew) fin
  · have hj : (i + (its.toArray.size : Int)).toNat = j := by
      rw [seqIndex_neg (by omega) h4] at h1
      rw [List.size_toArray, ← hl]
      exact Option.some.inj h1
    exact wpAny_getItem_list_neg pl.isList (by omega) (by rw [List.size_toArray] <;> omega) (by omega) (by rw [hj]; simpa using ew) fin
def wAugAt (i : Nat) (j : WE) (op : Op2) (u : WE) : WS := fun D st => match slot st i with
  | .val (.list ds) (.o (m + 1)) => j st fun dj _ => match dj with
    | .int z => match ixN ds.length z with
      | some p => match ds[p]? with
        | some d0 => u st fun d2 m2 => op d0 (scm d0) d2 m2 fun d md => eOk m d md = true ∧ D.nx (put st i (.val (.list (ds.set p d)) (.o (m + 1))))
        | none => False
      | none => False
    | _ => False
  | _ => False
theorem ts_augAt (i : Nat) {x : Str} {j : Expr} {op : Operator} {tip : TIp} {aop : Op2} (h : TrE X e u) (hj : TrE X j v) (hop : IpA X op tip aop) (hN : X.N[i]? = some x := by rfl) (hv : Vis X.env.scope x := by first | exact Or.inl rfl | exact Or.inr (Or.inl rfl) | exact Or.inr (Or.inr rfl))
    (hd : (x == ("__debug__" : Str)) = false := by decide) (hcd : (x == ("__classdict__" : Str)) = false := by decide)
    (ha : ∀ ov iv new, augStore j ov iv new = (do holding [new, ov, iv] (setItem ov iv new); release [new, ov, iv] []; pure .next) := by intros; rfl) :
    TrS X (.AugAssign (.Subscript (.Name x p1) j p2) op e pos) (wAugAt i v aop u) := by
  obtain ⟨t, p, sd⟩ := h.run
  obtain ⟨tj, pj, sj⟩ := hj.run
  refine ⟨_, ps_augS (pe_var hN hv hd hcd) pj pget_list p hop.1 set_list ha, fun B F0 H0 F H σ st D D' R n hw k => ?_⟩
  unfold wAugAt at hw
  split at hw
  · rename_i ds m hsl
    obtain ⟨a, xs0, q1, q2, _⟩ := R.recv hsl
    refine ⟨_, q1, sj B F0 H0 F H σ st _ _ R hw fun z F1 H1 dj mj fj x1 r1 n1 hq1 => ?_⟩
    split at hq1
    · rename_i z'
      split at hq1
      · rename_i p hp
        split at hq1
        · rename_i d0 hd0
          have hz := r1.read x1.wf
          cases hz
          obtain ⟨a', xs, fs, w1, w2, w3, _⟩ := R.write n x1 hsl
          rw [q1] at w1
          obtain rfl : a = a' := by simpa using w1
          obtain ⟨v0, f0, hv0, o0, sub0⟩ := fp3_get w3 hd0
          have R1 := R.go x1
          have t0 : Rp X.K (era B H1) v0 d0 := by
            obtain ⟨vv, fp, qq, tt, _⟩ := R1.get hsl
            rw [q1] at qq
            obtain rfl : V.ref a = vv := by simpa using qq
            obtain ⟨a2, vs2, e2, h2, nB2, q2⟩ := tt.list x1.wf
            cases e2
            rw [w2] at h2
            cases h2
            obtain ⟨v1, hv1, t1⟩ := rpAll_get q2 hd0
            rw [hv0] at hv1
            cases hv1
            exact t1
          have hat : atI xs z' = some v0 := by
            unfold atI
            rw [w3.len, hp]
            exact hv0
          refine ⟨a, xs, z', v0, rfl, rfl, SqL.of w2, hat, sd B F0 H0 F1 H1 σ st _ _ R1 hq1 fun y F2 H2 d2 m2 f2 x2 r2 n2 hq2 => ?_⟩
          have x12 := x1.trans x2
          have t0' : TR X.K B F2 H2 v0 d0 (scm d0) [] := .scm (rp_mono x2.era _ _ t0)
          refine hop.2 B F H F2 H2 v0 y d0 d2 (scm d0) m2 [] f2 _ _ x12 t0' r2 (fun _ h => by simp at h) (fun b hb => x1.old (r2.2.1 b hb) (n2 b hb)) (fun _ h => by simp at h) hq2 fun w F3 H3 d md fp x3 r3 n3 hq3 => ?_
          obtain ⟨hk, hq⟩ := hq3
          obtain ⟨F4, g, x4, _, s4, o4, nd, fr, _, _⟩ := r3.item x3 n3 hk
          obtain ⟨a', xs', fs', w1, w2', w3', w4, w5, w6, w7, w8, w9⟩ := R.write n x4 hsl
          rw [q1] at w1
          obtain rfl : a = a' := by simpa using w1
          have hag : a ∉ g := fun hm => by
            obtain ⟨o, ho⟩ := w6 a (List.mem_cons_self ..)
            rw [(fr a hm).2] at ho; cases ho
          obtain ⟨fs2, s1, s2, s5⟩ := fp3_set (p := p) w3' o4 (ixN_lt hp)
          have ha' : a ∉ fs2 := fun hm => (s2 a hm).elim w4 hag
          refine ⟨a, xs', z', p, rfl, rfl, w2', by rw [w3'.len]; exact hp, k.nx σ F4 _ _ x4.ff (w9 _ _ fs2 m upd_keep ⟨_, upd_same, fp3_upd s1 ha'⟩ (s5 w5 nd fun b hb hc => ?_) fun b hb => ?_) (noB_put n) hq⟩
          · obtain ⟨o, ho⟩ := w6 b (List.mem_cons_of_mem _ hc)
            rw [(fr b hb).2] at ho; cases ho
          · exact (s2 b hb).elim .inl fun q => .inr ⟨(fr b q).2, (fr b q).1⟩
        · exact hq1.elim
      · exact hq1.elim
    · exact hq1.elim
  · exact hw.elim
end
end AL

namespace AL
open PySem PySem.Spec PyProof.Rows L2

def ItOk (K : PySem.W.Frag) (G : Hp) (J : It) (ds : List PyData) : Prop := ∀ (i : Nat) (H : Hp), Same G H →
  (i < ds.length → J.go i H ∧ ∀ x H', J.yld i H x H' → ∃ d, ds[i]? = some d ∧ ((H' = H ∧ Rp K G x d) ∨ ∃ T xs es, H T = none ∧ H' = upd H T (.tup xs) ∧ x = .ref T ∧ d = .tuple es ∧ RpAll K G xs es)) ∧
  (ds.length ≤ i → J.stop i H)
def srcG (B : Option Bx) (F H : Hp) : Md → Hp
  | .o _ => F
  | .b => era B H
abbrev WI := AS → (List PyData → Md → Prop) → Prop
structure TrI (X : Cx) (tg it : Expr) (w : WI) : Prop where
  run : ∃ t, PI X tg it t ∧ ∀ B F0 H0 F H σ st Q (Q' : It → Hp → Prop), SR X.K B F0 H0 F H σ st → w st Q →
    (∀ J F' H' ds md, Ext X.K B F H F' H' → ItOk X.K (srcG B F' H' md) J ds → Q ds md → Q' J H') → t σ H Q'
def itm : Md → Md
  | .o _ => .o 0
  | .b => .b
theorem itOk_list {K : PySem.W.Frag} {G : Hp} {a : Addr} {vs : List V} {ds : List PyData} (h : G a = some (.lst vs)) (hd : RpAll K G vs ds) : ItOk K G (Itl K a) ds := by
  intro i H s
  have hl := SqL.of (K := K) (s _ _ h)
  refine ⟨fun hi => ?_, fun hi => ⟨vs, hl, by rw [rpAll_len hd]; exact hi⟩⟩
  have hd' : ds[i]? = some ds[i] := List.getElem?_eq_getElem hi
  obtain ⟨v, e1, h1⟩ := rpAll_get hd hd'
  refine ⟨⟨vs, v, hl, e1⟩, fun x H' hy => ⟨ds[i], hd', .inl ⟨hy.1, ?_⟩⟩⟩
  have e2 := hy.2 vs hl
  rw [e1] at e2
  cases e2
  exact h1
theorem itOk_tup {K : PySem.W.Frag} {G : Hp} {a : Addr} {vs : List V} {ds : List PyData} (h : SqT K G a vs) (hd : RpAll K G vs ds) : ItOk K G (Itt K a) ds := by
  intro i H s
  have hl := rp_mono.seqT s h
  refine ⟨fun hi => ?_, fun hi => ⟨vs, hl, by rw [rpAll_len hd]; exact hi⟩⟩
  have hd' : ds[i]? = some ds[i] := List.getElem?_eq_getElem hi
  obtain ⟨v, e1, h1⟩ := rpAll_get hd hd'
  refine ⟨⟨vs, v, hl, e1⟩, fun x H' hy => ⟨ds[i], hd', .inl ⟨hy.1, ?_⟩⟩⟩
  have e2 := hy.2 vs hl
  rw [e1] at e2
  cases e2
  exact h1
def iAny (K : PySem.W.Frag) (te : TE) : TI := fun σ H R => te σ H fun x H1 => (∃ a, x = .ref a ∧ (∃ xs, SqL K H1 a xs) ∧ R (Itl K a) H1) ∨ (∃ a, x = .ref a ∧ (∃ xs, SqT K H1 a xs) ∧ R (Itt K a) H1) ∨ ∃ z, x = .str z ∧ R (Its z) H1
theorem pi_any {X : Cx} {tg e : Expr} {te : TE} (he : PE X e te) : PI X tg e (iAny X.K te) := by
  constructor
  intro pins s σ H R I h
  apply thn (he.run pins s σ H _ I h)
  rintro v s1 ⟨x, H1, I1, r1, q⟩
  rcases q with ⟨a, rfl, ⟨xs, hx⟩, q⟩ | ⟨a, rfl, ⟨xs, hx⟩, q⟩ | ⟨z, rfl, q⟩
  · cases r1
    obtain ⟨its, _, pl, _⟩ := I1.list hx
    exact wpAny_pyIter_list pl.isList (pi_one (tk := s1.toks) I1 _ (turn_list a _) ⟨_, Heap.get?_push_size _ rfl, rfl, rfl⟩ q)
  · cases r1
    obtain ⟨its, _, pl, _⟩ := I1.tuple hx
    exact wpAny_pyIter_tuple (show s1.heap.IsTuple a its.toArray from pl) (pi_one (tk := s1.toks) I1 _ (turn_tuple a _) ⟨_, Heap.get?_push_size _ rfl, rfl, rfl⟩ q)
  · obtain ⟨t, rfl⟩ := r1
    by_cases hw : z.cps.all (· < 128) = true
    · exact wpAny_pyIter_ascii hw (pi_one (tk := s1.toks) I1 _
        (turn_str _ z t "str_ascii_iterator" (.inl rfl)) ⟨_, Heap.get?_push_size _ rfl, rfl, rfl⟩ q)
    · exact wpAny_pyIter_wide (Bool.eq_false_iff.mpr hw) (pi_one (tk := s1.toks) I1 _
        (turn_str _ z t "str_iterator" (.inr rfl)) ⟨_, Heap.get?_push_size _ rfl, rfl, rfl⟩ q)
def signs (z : Str) : List PyData := z.cps.toList.map fun c => .str ⟨#[c]⟩
def wIter (u : WE) : WI := fun st Q => u st fun d m => match d with
  | .list ds => Q ds (itm m)
  | .tuple ds => Q ds (itm m)
  | .str z => Q (signs z) (.o 0)
  | _ => False
theorem itOk_str {K : PySem.W.Frag} {G : Hp} {z : Str} : ItOk K G (Its z) (signs z) := by
  intro i H s
  have hn : (signs z).length = z.cps.size := by simp [signs]
  refine ⟨fun hi => ?_, fun hi => by rw [hn] at hi; exact hi⟩
  rw [hn] at hi
  refine ⟨hi, fun x H' hy => ?_⟩
  obtain ⟨e, c, hc, ex⟩ := hy
  refine ⟨.str ⟨#[c]⟩, ?_, .inl ⟨e, by rw [ex]; exact .str _⟩⟩
  simp only [signs, List.getElem?_map, Array.getElem?_toList]
  rw [hc]
  rfl
section
variable {X : Cx} {tg e e1 e2 : Expr} {u v : WE} {pos p : Pos}
theorem ti_any (h : TrE X e u) : TrI X tg e (wIter u) := by
  obtain ⟨t, pp, s⟩ := h.run
  refine ⟨_, pi_any pp, fun B F0 H0 F H σ st Q Q' R hw k => s B F0 H0 F H σ st _ _ R hw fun x F1 H1 d md f x1 r1 n1 hq => ?_⟩
  split at hq
  · rename_i ds
    refine .inl ?_
    cases md with
    | b =>
      obtain ⟨a, vs, e1, h1, nB, q1⟩ := r1.list x1.wf
      refine ⟨a, e1, ⟨vs, SqL.of h1⟩, k _ F1 H1 ds .b x1 (itOk_list (vs := vs) ?_ q1) hq⟩
      show era B H1 a = _
      rw [era_nb nB]; exact h1
    | o m =>
      obtain ⟨x2, s2, h2⟩ := r1.give x1 n1
      cases h2 with
      | lst h3 h4 => exact ⟨_, rfl, ⟨_, SqL.of (x2.wf.fh _ _ h3)⟩, k _ _ H1 ds (.o 0) x2 (itOk_list h3 h4) hq⟩
  · rename_i ds
    refine .inr (.inl ?_)
    cases md with
    | b =>
      have h := r1.read x1.wf
      cases h with
      | tup h3 h4 => exact ⟨_, rfl, ⟨_, rp_mono.seqT era_sub h3⟩, k _ F1 H1 ds .b x1 (itOk_tup h3 h4) hq⟩
    | o m =>
      obtain ⟨h, _⟩ := own_notlist r1.2.2 rfl
      cases h with
      | tup h3 h4 => exact ⟨_, rfl, ⟨_, rp_mono.seqT x1.wf.fh h3⟩, k _ F1 H1 ds (.o 0) x1 (itOk_tup h3 h4) hq⟩
  · rename_i z
    have h := r1.read x1.wf
    cases h
    exact .inr (.inr ⟨z, rfl, k _ F1 H1 _ (.o 0) x1 itOk_str hq⟩)
  · exact hq.elim
def rngs (lo c : Int) (n : Nat) : List PyData := (List.range n).map fun i => .int (lo + (i : Nat) * c)
theorem itOk_rng {K : PySem.W.Frag} {G : Hp} {lo : Int} {n : Nat} : ItOk K G (Itr lo n) (rngs lo 1 n) := by
  intro i H s
  have hn : (rngs lo 1 n).length = n := by simp [rngs]
  refine ⟨fun hi => ?_, fun hi => by rw [hn] at hi; exact hi⟩
  rw [hn] at hi
  refine ⟨hi, fun x H' hy => ⟨.int (lo + (i : Nat) * 1), ?_, .inl ⟨hy.1, by rw [hy.2, Int.mul_one]; exact .int _⟩⟩⟩
  simp only [rngs, List.getElem?_map, List.getElem?_range hi]
  rfl
theorem itOk_rngC {K : PySem.W.Frag} {G : Hp} {lo c : Int} {n : Nat} : ItOk K G (Itc lo c n) (rngs lo c n) := by
  intro i H s
  have hn : (rngs lo c n).length = n := by simp [rngs]
  refine ⟨fun hi => ?_, fun hi => by rw [hn] at hi; exact hi⟩
  rw [hn] at hi
  refine ⟨hi, fun x H' hy => ⟨.int (lo + (i : Nat) * c), ?_, .inl ⟨hy.1, by rw [hy.2]; exact .int _⟩⟩⟩
  simp only [rngs, List.getElem?_map, List.getElem?_range hi]
  rfl
def inB (j : Int) : Prop := -4611686018427387904 ≤ j ∧ j < 4611686018427387904
def wRng1 (u : WE) : WI := fun st Q => u st fun d _ => match d with
  | .int j => inB j ∧ Q (rngs 0 1 j.toNat) (.o 0)
  | _ => False
def wRng2 (u v : WE) : WI := fun st Q => u st fun d _ => v st fun d2 _ => match d, d2 with
  | .int i, .int j => inB i ∧ inB j ∧ Q (rngs i 1 (j - i).toNat) (.o 0)
  | _, _ => False
def wRngD (u v : WE) : WI := fun st Q => u st fun d _ => v st fun d2 _ => match d, d2 with
  | .int i, .int j => inB i ∧ inB j ∧ Q (rngs i (-1) (i - j).toNat) (.o 0)
  | _, _ => False
theorem ti_rng1 (h : TrE X e u) (hg : Gl X "range") (hm : X.mg "range" = none) (hst : starEach [e] X.env = (false, eval e X.env) :: starEach [] X.env := by rfl) (hs : starEach [e] X.env = [(false, eval e X.env)] := by rfl) : TrI X tg (.Call (.Name "range" p) [e] [] pos) (wRng1 u) := by
  obtain ⟨t, pp, s⟩ := h.run
  refine ⟨_, pi_range1 hg hm (pa_cons pp pa_nil hst) hs, fun B F0 H0 F H σ st Q Q' R hw k => s B F0 H0 F H σ st _ _ R hw fun x F1 H1 d md f x1 r1 n1 hq => ?_⟩
  split at hq
  · have h := r1.read x1.wf
    cases h
    exact ⟨_, rfl, hq.1.1, hq.1.2, k _ F1 H1 _ (.o 0) x1 itOk_rng hq.2⟩
  · exact hq.elim
theorem ti_rng2 (h : TrE X e1 u) (h2 : TrE X e2 v) (hg : Gl X "range") (hm : X.mg "range" = none) (hst : starEach [e1, e2] X.env = (false, eval e1 X.env) :: starEach [e2] X.env := by rfl) (hst2 : starEach [e2] X.env = (false, eval e2 X.env) :: starEach [] X.env := by rfl) (hs : starEach [e1, e2] X.env = [(false, eval e1 X.env), (false, eval e2 X.env)] := by rfl) (hs2 : starEach [e2] X.env = [(false, eval e2 X.env)] := by rfl) :
    TrI X tg (.Call (.Name "range" p) [e1, e2] [] pos) (wRng2 u v) := by
  obtain ⟨t, pp, s⟩ := h.run
  obtain ⟨t2, pp2, s2⟩ := h2.run
  refine ⟨_, pi_range2 hg hm (pa_cons pp (pa_cons pp2 pa_nil hst2) hst) hs hs2, fun B F0 H0 F H σ st Q Q' R hw k => run2 (Q' := fun x y H2 => ∃ i j : Int, [x, y] = [V.int i, V.int j] ∧ (-(2 ^ 62) ≤ i ∧ i < 2 ^ 62 ∧ -(2 ^ 62) ≤ j ∧ j < 2 ^ 62) ∧ Q' (Itr i (j - i).toNat) H2) s s2 R hw fun x y F2 H2 d1 m1 d2 m2 f1 f2 ex r1 r2 n1 n2 dj hq => ?_⟩
  split at hq
  · have h := r1.read ex.wf
    have h' := r2.read ex.wf
    cases h
    cases h'
    exact ⟨_, _, rfl, ⟨hq.1.1, hq.1.2, hq.2.1.1, hq.2.1.2⟩, k _ F2 H2 _ (.o 0) ex itOk_rng hq.2.2⟩
  · exact hq.elim
theorem ti_rngD {e3 : Expr} (h : TrE X e1 u) (h2 : TrE X e2 v) (h3 : TrE X e3 (wC (.int (-1)))) (hg : Gl X "range") (hm : X.mg "range" = none) (hst : starEach [e1, e2, e3] X.env = (false, eval e1 X.env) :: starEach [e2, e3] X.env := by rfl) (hst2 : starEach [e2, e3] X.env = (false, eval e2 X.env) :: starEach [e3] X.env := by rfl) (hst3 : starEach [e3] X.env = (false, eval e3 X.env) :: starEach [] X.env := by rfl)
    (hpi : ∀ {ta : TA}, PA X [e1, e2, e3] ta → PI X tg (.Call (.Name "range" p) [e1, e2, e3] [] pos) (iRng3 ta)) :
    TrI X tg (.Call (.Name "range" p) [e1, e2, e3] [] pos) (wRngD u v) := by
  obtain ⟨t, pp, s⟩ := h.run
  obtain ⟨t2, pp2, s2⟩ := h2.run
  obtain ⟨t3, pp3, s3⟩ := h3.run
  refine ⟨_, hpi (pa_cons pp (pa_cons pp2 (pa_cons pp3 pa_nil hst3) hst2) hst), fun B F0 H0 F H σ st Q Q' R hw k => run2 (Q' := fun x y H2 => t3 σ H2 fun z H3 => ∃ (i j c : Int) (n : Nat), [x, y, z] = [V.int i, V.int j, V.int c] ∧ RgC i j c n ∧ Q' (Itc i c n) H3) s s2 R hw fun x y F2 H2 d1 m1 d2 m2 f1 f2 ex r1 r2 n1 n2 dj hq => ?_⟩
  refine s3 B F0 H0 F2 H2 σ st (fun d _ => d = .int (-1)) _ (R.go ex) rfl fun z F3 H3 d3 m3 f3 x3 r3 n3 hq3 => ?_
  subst hq3
  have hz := r3.read x3.wf
  cases hz
  split at hq
  · have h := (r1.ext x3).read x3.wf
    have h' := (r2.ext x3).read x3.wf
    cases h
    cases h'
    exact ⟨_, _, -1, _, rfl, RgC.neg hq.1.1 hq.1.2 hq.2.1.1 hq.2.1.2, k _ F3 H3 _ (.o 0) (ex.trans x3) itOk_rngC hq.2.2⟩
  · exact hq.elim
def enumD : Nat → List PyData → List PyData
  | _, [] => []
  | i, d :: r => .tuple [.int (i : Nat), d] :: enumD (i + 1) r
theorem enumD_get : ∀ (ds : List PyData) (k i : Nat) (d : PyData), ds[i]? = some d → (enumD k ds)[i]? = some (.tuple [.int ((k + i : Nat) : Int), d])
  | [], _, _, _, h => by simp at h
  | x :: r, k, 0, d, h => by simp at h; subst h; rfl
  | x :: r, k, i + 1, d, h => by
    have := enumD_get r (k + 1) i d (by simpa using h)
    rw [show k + 1 + i = k + (i + 1) by omega] at this
    exact this
theorem enumD_len : ∀ (ds : List PyData) (k : Nat), (enumD k ds).length = ds.length
  | [], _ => rfl
  | _ :: r, k => congrArg (· + 1) (enumD_len r (k + 1))
theorem itOk_enum {K : PySem.W.Frag} {G : Hp} {a : Addr} {vs : List V} {ds : List PyData} (h : G a = some (.lst vs)) (hd : RpAll K G vs ds) : ItOk K G (Ite K a) (enumD 0 ds) := by
  intro i H s
  have hl := SqL.of (K := K) (s _ _ h)
  rw [enumD_len]
  refine ⟨fun hi => ?_, fun hi => ⟨vs, hl, by rw [rpAll_len hd]; exact hi⟩⟩
  have hd' : ds[i]? = some ds[i] := List.getElem?_eq_getElem hi
  obtain ⟨v, e1, h1⟩ := rpAll_get hd hd'
  refine ⟨⟨vs, v, hl, e1⟩, fun x H' hy => ?_⟩
  obtain ⟨T, y, e2, e3, e4, e5⟩ := hy
  have e6 := e5 vs hl
  rw [e1] at e6
  cases e6
  have e7 := enumD_get ds 0 i _ hd'
  rw [Nat.zero_add] at e7
  exact ⟨_, e7, .inr ⟨T, _, _, e3, e4, e2, rfl, .cons (.int _) (.cons h1 .nil)⟩⟩
def wEnum (u : WE) : WI := fun st Q => u st fun d m => match d with
  | .list ds => Q (enumD 0 ds) (itm m)
  | _ => False
theorem ti_enum {elts : List Expr} {kk : Nat} {tpos : Pos} (h : TrE X e u) (hg : Gl X "enumerate") (hm : X.mg "enumerate" = none) (hst : starEach [e] X.env = (false, eval e X.env) :: starEach [] X.env := by rfl) (hs : starEach [e] X.env = [(false, eval e X.env)] := by rfl) :
    TrI X (.Tuple elts kk tpos) (.Call (.Name "enumerate" p) [e] [] pos) (wEnum u) := by
  obtain ⟨t, pp, s⟩ := h.run
  refine ⟨_, pi_enum hg hm (pa_cons pp pa_nil hst) hs, fun B F0 H0 F H σ st Q Q' R hw k => s B F0 H0 F H σ st _ _ R hw fun x F1 H1 d md f x1 r1 n1 hq => ?_⟩
  split at hq
  · rename_i ds
    cases md with
    | b =>
      obtain ⟨a, vs, e1, h1, nB, q1⟩ := r1.list x1.wf
      refine ⟨a, vs, by rw [e1], SqL.of h1, k _ F1 H1 _ .b x1 (itOk_enum (vs := vs) ?_ q1) hq⟩
      show era B H1 a = _
      rw [era_nb nB]; exact h1
    | o m =>
      obtain ⟨x2, s2, h2⟩ := r1.give x1 n1
      cases h2 with
      | lst h3 h4 => exact ⟨_, _, rfl, SqL.of (x2.wf.fh _ _ h3), k _ _ H1 _ (.o 0) x2 (itOk_enum h3 h4) hq⟩
  · exact hq.elim
def zipD : List PyData → List PyData → List PyData
  | d :: ds, e :: es => .tuple [d, e] :: zipD ds es
  | _, _ => []
theorem zipD_get : ∀ (ds es : List PyData) (i : Nat) (d e : PyData), ds[i]? = some d → es[i]? = some e → (zipD ds es)[i]? = some (.tuple [d, e])
  | [], _, _, _, _, h, _ => by simp at h
  | _ :: _, [], _, _, _, _, h => by simp at h
  | x :: r, y :: q, 0, d, e, h, h2 => by simp at h h2; subst h h2; rfl
  | x :: r, y :: q, i + 1, d, e, h, h2 => zipD_get r q i d e (by simpa using h) (by simpa using h2)
theorem zipD_len : ∀ (ds es : List PyData), (zipD ds es).length = min ds.length es.length
  | [], _ => by simp [zipD]
  | _ :: _, [] => by simp [zipD]
  | _ :: r, _ :: q => by simp only [zipD, List.length_cons, zipD_len r q]; omega
theorem itOk_zip {K : PySem.W.Frag} {G : Hp} {a b : Addr} {vs us : List V} {ds es : List PyData} (h : G a = some (.lst vs)) (hd : RpAll K G vs ds) (h' : G b = some (.lst us)) (hd' : RpAll K G us es) : ItOk K G (Itz K a b) (zipD ds es) := by
  intro i H s
  have hl := SqL.of (K := K) (s _ _ h)
  have hl' := SqL.of (K := K) (s _ _ h')
  rw [zipD_len]
  refine ⟨fun hi => ?_, fun hi => ⟨vs, us, hl, hl', ?_⟩⟩
  · have g1 : ds[i]? = some ds[i] := List.getElem?_eq_getElem (by omega)
    have g2 : es[i]? = some es[i] := List.getElem?_eq_getElem (by omega)
    obtain ⟨v, e1, h1⟩ := rpAll_get hd g1
    obtain ⟨w, e2, h2⟩ := rpAll_get hd' g2
    refine ⟨⟨vs, us, v, w, hl, hl', e1, e2⟩, fun x H' hy => ?_⟩
    obtain ⟨T, y, z, e3, e4, e5, e6, e7⟩ := hy
    have k1 := e6 vs hl
    have k2 := e7 us hl'
    rw [e1] at k1
    rw [e2] at k2
    cases k1
    cases k2
    exact ⟨_, zipD_get _ _ _ _ _ g1 g2, .inr ⟨T, _, _, e4, e5, e3, rfl, .cons h1 (.cons h2 .nil)⟩⟩
  · rw [rpAll_len hd, rpAll_len hd']
    omega
theorem itOk_zipT {K : PySem.W.Frag} {G : Hp} {a b : Addr} {vs us : List V} {ds es : List PyData} (h : SqT K G a vs) (hd : RpAll K G vs ds) (h' : SqT K G b us) (hd' : RpAll K G us es) : ItOk K G (RZ.ItzT K a b) (zipD ds es) := by
  intro i H s
  have hl := rp_mono.seqT s h
  have hl' := rp_mono.seqT s h'
  rw [zipD_len]
  refine ⟨fun hi => ?_, fun hi => ⟨vs, us, hl, hl', ?_⟩⟩
  · have g1 : ds[i]? = some ds[i] := List.getElem?_eq_getElem (by omega)
    have g2 : es[i]? = some es[i] := List.getElem?_eq_getElem (by omega)
    obtain ⟨v, e1, h1⟩ := rpAll_get hd g1
    obtain ⟨w, e2, h2⟩ := rpAll_get hd' g2
    refine ⟨⟨vs, us, v, w, hl, hl', e1, e2⟩, fun x H' hy => ?_⟩
    obtain ⟨T, y, z, e3, e4, e5, e6, e7⟩ := hy
    have k1 := e6 vs hl
    have k2 := e7 us hl'
    rw [e1] at k1
    rw [e2] at k2
    cases k1
    cases k2
    exact ⟨_, zipD_get _ _ _ _ _ g1 g2, .inr ⟨T, _, _, e4, e5, e3, rfl, .cons h1 (.cons h2 .nil)⟩⟩
  · rw [rpAll_len hd, rpAll_len hd']
    omega
def jnI : Md → Md → Md
  | .o _, .o _ => .o 0
  | _, _ => .b
def wZip (u v : WE) : WI := fun st Q => u st fun d m => v st fun d2 m2 => match d, d2 with
  | .list ds, .list es => Q (zipD ds es) (jnI m m2)
  | .tuple ds, .tuple es => Q (zipD ds es) (jnI m m2)
  | _, _ => False
theorem TR.srcL {K : PySem.W.Frag} {B : Option Bx} {F H : Hp} {x : V} {xs : List PyData} {md : Md} {f : List Addr} (t : TR K B F H x (.list xs) md f) (w : Wf K B F H) : ∃ a vs, x = .ref a ∧ H a = some (.lst vs) ∧ era B H a = some (.lst vs) ∧ RpAll K (era B H) vs xs := by
  obtain ⟨a, vs, e1, h1, nB, q1⟩ := t.list w
  exact ⟨a, vs, e1, h1, by rw [era_nb nB]; exact h1, q1⟩
theorem TR.srcT {K : PySem.W.Frag} {B : Option Bx} {F H : Hp} {x : V} {xs : List PyData} {md : Md} {f : List Addr} (t : TR K B F H x (.tuple xs) md f) (w : Wf K B F H) : ∃ a vs, x = .ref a ∧ SqT K H a vs ∧ SqT K (era B H) a vs ∧ RpAll K (era B H) vs xs := by
  have h := t.read w
  cases h with
  | tup h3 h4 => exact ⟨_, _, rfl, rp_mono.seqT era_sub h3, h3, h4⟩
theorem ti_zip {elts : List Expr} {kk : Nat} {tpos : Pos} (h : TrE X e1 u) (h2 : TrE X e2 v) (hg : Gl X "zip") (hm : X.mg "zip" = none) (hst : starEach [e1, e2] X.env = (false, eval e1 X.env) :: starEach [e2] X.env := by rfl) (hst2 : starEach [e2] X.env = (false, eval e2 X.env) :: starEach [] X.env := by rfl)
    (hpl : (backTo pos (starEach [e2] X.env)).any (·.1) = false := by rfl) : TrI X (.Tuple elts kk tpos) (.Call (.Name "zip" p) [e1, e2] [] pos) (wZip u v) := by
  obtain ⟨t, pp, s⟩ := h.run
  obtain ⟨t2, pp2, s2⟩ := h2.run
  refine ⟨_, RZ.pi_zipA hg hm (pa_cons pp (pa_cons pp2 pa_nil hst2) hst) hst hpl, fun B F0 H0 F H σ st Q Q' R hw k => run2 (Q' := fun x y H2 => ∃ a b xs ys, [x, y] = [V.ref a, V.ref b] ∧ ((SqL X.K H2 a xs ∧ SqL X.K H2 b ys ∧ Q' (Itz X.K a b) H2) ∨ (SqT X.K H2 a xs ∧ SqT X.K H2 b ys ∧ Q' (RZ.ItzT X.K a b) H2))) s s2 R hw fun x y F2 H2 d1 m1 d2 m2 f1 f2 ex r1 r2 n1 n2 dj hq => ?_⟩
  split at hq
  · rename_i ds es
    by_cases hb : jnI m1 m2 = .o 0
    · cases m1 with
      | b => exact absurd hb (by simp [jnI])
      | o m1 =>
        cases m2 with
        | b => exact absurd hb (by simp [jnI])
        | o m2 =>
          obtain ⟨x2, s3, q2⟩ := r1.give ex n1
          obtain ⟨x3, s4, q3⟩ := (r2.beside (l := f1) (fun a ha => (r1.live a ha).2) fun a ha hb => dj a hb ha).give x2 n2
          have q2' := rp_mono s4 _ _ q2
          cases q2' with
          | lst h3 h4 =>
            cases q3 with
            | lst h5 h6 => exact ⟨_, _, _, _, rfl, .inl ⟨SqL.of (x3.wf.fh _ _ h3), SqL.of (x3.wf.fh _ _ h5), k _ _ H2 _ (.o 0) x3 (itOk_zip h3 h4 h5 h6) hq⟩⟩
    · have hb' : jnI m1 m2 = .b := by cases m1 <;> cases m2 <;> first | rfl | exact absurd rfl hb
      rw [hb'] at hq
      obtain ⟨a, vs, e1, h1, h1', q1⟩ := r1.srcL ex.wf
      obtain ⟨b, us, e2, h2, h2', q2⟩ := r2.srcL ex.wf
      exact ⟨a, b, vs, us, by rw [e1, e2], .inl ⟨SqL.of h1, SqL.of h2, k _ F2 H2 _ .b ex (itOk_zip h1' q1 h2' q2) hq⟩⟩
  · rename_i ds es
    by_cases hb : jnI m1 m2 = .o 0
    · cases m1 with
      | b => exact absurd hb (by simp [jnI])
      | o m1 =>
        cases m2 with
        | b => exact absurd hb (by simp [jnI])
        | o m2 =>
          obtain ⟨a, vs, e1, h1, q1, _⟩ := r1.tuple0
          obtain ⟨b, us, e2, h2, q2, _⟩ := r2.tuple0
          exact ⟨a, b, vs, us, by rw [e1, e2], .inr ⟨rp_mono.seqT ex.wf.fh h1, rp_mono.seqT ex.wf.fh h2, k _ F2 H2 _ (.o 0) ex (itOk_zipT h1 q1 h2 q2) hq⟩⟩
    · have hb' : jnI m1 m2 = .b := by cases m1 <;> cases m2 <;> first | rfl | exact absurd rfl hb
      rw [hb'] at hq
      obtain ⟨a, vs, e1, h1, h1', q1⟩ := r1.srcT ex.wf
      obtain ⟨b, us, e2, h2, h2', q2⟩ := r2.srcT ex.wf
      exact ⟨a, b, vs, us, by rw [e1, e2], .inr ⟨h1, h2, k _ F2 H2 _ .b ex (itOk_zipT h1' q1 h2' q2) hq⟩⟩
  · exact hq.elim
theorem itOk_rev {K : PySem.W.Frag} {G : Hp} {a : Addr} {vs : List V} {ds : List PyData} (h : G a = some (.lst vs)) (hd : RpAll K G vs ds) : ItOk K G (Itv K a vs.length) ds.reverse := by
  intro i H s
  have hl := SqL.of (K := K) (s _ _ h)
  have hn := rpAll_len hd
  rw [List.length_reverse]
  refine ⟨fun hi => ?_, fun hi => show vs.length ≤ i by omega⟩
  have g : ds.reverse[i]? = some ds[ds.length - 1 - i] := by rw [List.getElem?_reverse hi, List.getElem?_eq_getElem]
  obtain ⟨v, e1, h1⟩ := rpAll_get hd (List.getElem?_eq_getElem (show ds.length - 1 - i < ds.length by omega))
  rw [← hn] at e1
  refine ⟨⟨by omega, vs, v, hl, e1⟩, fun x H' hy => ⟨_, g, .inl ⟨hy.1, ?_⟩⟩⟩
  have e2 := hy.2 vs hl
  rw [e1] at e2
  cases e2
  exact h1
theorem itOk_revT {K : PySem.W.Frag} {G : Hp} {a : Addr} {vs : List V} {ds : List PyData} (h : SqT K G a vs) (hd : RpAll K G vs ds) : ItOk K G (RT.ItvT K a vs.length) ds.reverse := by
  intro i H s
  have hl := rp_mono.seqT s h
  have hn := rpAll_len hd
  rw [List.length_reverse]
  refine ⟨fun hi => ?_, fun hi => show vs.length ≤ i by omega⟩
  have g : ds.reverse[i]? = some ds[ds.length - 1 - i] := by rw [List.getElem?_reverse hi, List.getElem?_eq_getElem]
  obtain ⟨v, e1, h1⟩ := rpAll_get hd (List.getElem?_eq_getElem (show ds.length - 1 - i < ds.length by omega))
  rw [← hn] at e1
  refine ⟨⟨by omega, vs, v, hl, e1⟩, fun x H' hy => ⟨_, g, .inl ⟨hy.1, ?_⟩⟩⟩
  have e2 := hy.2 vs hl
  rw [e1] at e2
  cases e2
  exact h1
def wRev (u : WE) : WI := fun st Q => u st fun d m => match d with
  | .list ds => Q ds.reverse (itm m)
  | .tuple ds => Q ds.reverse (itm m)
  | _ => False
theorem ti_rev (h : TrE X e u) (hg : Gl X "reversed") (hm : X.mg "reversed" = none) (hst : starEach [e] X.env = (false, eval e X.env) :: starEach [] X.env := by rfl) : TrI X tg (.Call (.Name "reversed" p) [e] [] pos) (wRev u) := by
  obtain ⟨t, pp, s⟩ := h.run
  refine ⟨_, RT.pi_revA hg hm pp hst, fun B F0 H0 F H σ st Q Q' R hw k => s B F0 H0 F H σ st _ _ R hw fun x F1 H1 d md f x1 r1 n1 hq => ?_⟩
  split at hq
  · rename_i ds
    cases md with
    | b =>
      obtain ⟨a, vs, e1, h1, h1', q1⟩ := r1.srcL x1.wf
      exact ⟨a, vs, e1, .inl ⟨SqL.of h1, k _ F1 H1 _ .b x1 (itOk_rev h1' q1) hq⟩⟩
    | o m =>
      obtain ⟨x2, s2, h2⟩ := r1.give x1 n1
      cases h2 with
      | lst h3 h4 => exact ⟨_, _, rfl, .inl ⟨SqL.of (x2.wf.fh _ _ h3), k _ _ H1 _ (.o 0) x2 (itOk_rev h3 h4) hq⟩⟩
  · rename_i ds
    cases md with
    | b =>
      obtain ⟨a, vs, e1, h1, h1', q1⟩ := r1.srcT x1.wf
      exact ⟨a, vs, e1, .inr ⟨h1, k _ F1 H1 _ .b x1 (itOk_revT h1' q1) hq⟩⟩
    | o m =>
      obtain ⟨a, vs, e1, h1, q1, _⟩ := r1.tuple0
      exact ⟨a, vs, e1, .inr ⟨rp_mono.seqT x1.wf.fh h1, k _ F1 H1 _ (.o 0) x1 (itOk_revT h1 q1) hq⟩⟩
  · exact hq.elim
end
end AL

namespace AL
open PySem PySem.Spec PyProof.Rows L2

abbrev WG := PyData → Md → AS → (AS → Prop) → Prop
abbrev WGs := List PyData → Md → AS → (AS → Prop) → Prop
structure TrG (X : Cx) (ix : List Nat) (tg : Expr) (w : WG) : Prop where
  run : ∃ t, PG X tg t ∧ ∀ B F0 H0 F H σ st v d md Q (Q' : L2.St → Hp → Prop), SR X.K B F0 H0 F H σ st → TR X.K B F H v d md [] → w d md st Q →
    (∀ σ' st', SR X.K B F0 H0 F H σ' st' → (md = .o 0 → NoB st → NoB st') → (∀ vs : List Nat, (∀ i ∈ ix, i ∈ vs) → wipe σ' vs = wipe σ vs) → Q st' → Q' σ' H) → t v σ H Q'
structure TrGs (X : Cx) (ix : List Nat) (tg : List Expr) (w : WGs) : Prop where
  run : ∃ t, PGs X tg t ∧ ∀ B F0 H0 F H σ st vs ds md Q (Q' : L2.St → Hp → Prop), SR X.K B F0 H0 F H σ st → Paired (fun v d => TR X.K B F H v d (elt md d) []) vs ds → w ds md st Q →
    (∀ σ' st', SR X.K B F0 H0 F H σ' st' → (md = .o 0 → NoB st → NoB st') → (∀ vs : List Nat, (∀ i ∈ ix, i ∈ vs) → wipe σ' vs = wipe σ vs) → Q st' → Q' σ' H) → t vs σ H Q'
def nrm (d : PyData) : Md → Md
  | .o m => .o m
  | .b => scm d
def gNm (i : Nat) : WG := fun d md st Q => i < st.length ∧ Q (put st i (.val d (nrm d md)))
def gNl : WGs := fun ds _ st Q => match ds with
  | [] => Q st
  | _ => False
def gCs (g : WG) (r : WGs) : WGs := fun ds md st Q => match ds with
  | d :: ds => g d (elt md d) st fun st' => r ds md st' Q
  | [] => False
def gTp (n : Nat) (g : WGs) : WG := fun d md st Q => match d with
  | .tuple ds => ds.length = n ∧ g ds md st Q
  | _ => False
theorem wipe_get (σ : L2.St) : ∀ (vs : List Nat) (j : Nat), (wipe σ vs)[j]? = if j ∈ vs ∧ j < σ.length then some none else σ[j]?
  | [], j => by simp [wipe]
  | v :: vs, j => by
    unfold wipe
    by_cases h : v = j
    · subst h
      by_cases hl : v < σ.length
      · rw [List.getElem?_set_self (by rw [wipe_length]; exact hl), if_pos ⟨List.mem_cons_self .., hl⟩]
      · rw [List.getElem?_eq_none (by rw [List.length_set, wipe_length]; omega), if_neg (fun z => hl z.2), List.getElem?_eq_none (by omega)]
    · rw [List.getElem?_set_ne h, wipe_get σ vs j]
      by_cases hm : j ∈ vs ∧ j < σ.length
      · rw [if_pos hm, if_pos ⟨List.mem_cons_of_mem _ hm.1, hm.2⟩]
      · rw [if_neg hm, if_neg]
        rintro ⟨z, hl⟩
        rcases List.mem_cons.mp z with q | q
        · exact h q.symm
        · exact hm ⟨q, hl⟩
theorem wipe_set {σ : L2.St} {vs : List Nat} {i : Nat} {u : Option V} (h : i ∈ vs) : wipe (σ.set i u) vs = wipe σ vs := by
  apply List.ext_getElem?
  intro j
  rw [wipe_get, wipe_get, List.length_set]
  by_cases hm : j ∈ vs ∧ j < σ.length
  · rw [if_pos hm, if_pos hm]
  · rw [if_neg hm, if_neg hm]
    by_cases hj : i = j
    · subst hj
      have hl : ¬ i < σ.length := fun z => hm ⟨h, z⟩
      rw [List.getElem?_eq_none (by rw [List.length_set]; omega), List.getElem?_eq_none (by omega)]
    · rw [List.getElem?_set_ne hj]
theorem wipe_wipe (σ : L2.St) (vs : List Nat) : wipe (wipe σ vs) vs = wipe σ vs := by
  apply List.ext_getElem?
  intro j
  rw [wipe_get, wipe_get, wipe_length]
  by_cases hm : j ∈ vs ∧ j < σ.length
  · simp only [if_pos hm]
  · simp only [if_neg hm]
def wipeS (st : AS) : List Nat → AS
  | [] => st
  | v :: vs => put (wipeS st vs) v .dead
theorem SR.wipe {K : PySem.W.Frag} {B : Option Bx} {F0 H0 F H : Hp} {σ : L2.St} {st : AS} (R : SR K B F0 H0 F H σ st) : ∀ vs : List Nat, SR K B F0 H0 F H (L2.wipe σ vs) (wipeS st vs)
  | [] => R
  | _ :: vs => (R.wipe vs).kill none
section
variable {X : Cx} {pos : Pos}
theorem tg_name (i : Nat) {x : Str} (hN : X.N.Nodup) (hi : X.N[i]? = some x := by rfl) (hx : Loc X.env.scope x := by first | exact Or.inl rfl | exact Or.inr rfl) (hf : X.fn x = true ∨ X.env.scope.names.lookup x = some .local := by first | exact .inl rfl | exact .inr rfl | assumption) :
    TrG X [i] (.Name x pos) (gNm i) := by
  refine ⟨_, pg_name hN hi hx hf, fun B F0 H0 F H σ st v d md Q Q' R r hw k => ?_⟩
  obtain ⟨hl, hq⟩ := hw
  have r' : TR X.K B F H v d (nrm d md) [] := by
    cases md with
    | o m => exact r
    | b => exact .scm r.2.2.1
  refine k _ _ (R.set (.refl R.wf) r' (fun _ h => by simp at h) hl) (fun e n => ?_) (fun vs hv => wipe_set (hv i (by simp))) hq
  subst e
  exact noB_put n
theorem tgs_nil : TrGs X [] [] gNl := by
  refine ⟨_, pgs_nil, fun B F0 H0 F H σ st vs ds md Q Q' R r hw k => ?_⟩
  unfold gNl at hw
  split at hw
  · cases r
    exact ⟨rfl, k σ st R (fun _ n => n) (fun _ _ => rfl) hw⟩
  · exact hw.elim
theorem tgs_cons {i1 i2 : List Nat} {e : Expr} {es : List Expr} {g : WG} {r : WGs} (h1 : TrG X i1 e g) (h2 : TrGs X i2 es r) (hs : (assignEach (e :: es) X.env).map (·.2) = assign e X.env :: (assignEach es X.env).map (·.2) := by rfl) : TrGs X (i1 ++ i2) (e :: es) (gCs g r) := by
  obtain ⟨t1, p1, s1⟩ := h1.run
  obtain ⟨t2, p2, s2⟩ := h2.run
  refine ⟨_, pgs_cons p1 p2 hs, fun B F0 H0 F H σ st vs ds md Q Q' R pr hw k => ?_⟩
  unfold gCs at hw
  split at hw
  · rename_i d ds
    cases pr with
    | cons pv pt =>
      refine ⟨_, _, rfl, s1 B F0 H0 F H σ st _ d (elt md d) _ _ R pv hw fun σ1 st1 R1 n1 w1 q1 => s2 B F0 H0 F H σ1 st1 _ ds md Q _ R1 pt q1 fun σ2 st2 R2 n2 w2 q2 => k σ2 st2 R2 (fun e n => n2 e (n1 (by subst e; rfl) n)) (fun vs hv => ?_) q2⟩
      exact (w2 vs fun i hi => hv i (List.mem_append_right _ hi)).trans (w1 vs fun i hi => hv i (List.mem_append_left _ hi))
  · exact hw.elim
theorem paired_rp {K : PySem.W.Frag} {B : Option Bx} {F H : Hp} {md : Md} (f : ∀ v d, Rp K (srcG B F H md) v d → TR K B F H v d (elt md d) []) : ∀ {vs : List V} {ds : List PyData}, RpAll K (srcG B F H md) vs ds → Paired (fun v d => TR K B F H v d (elt md d) []) vs ds
  | _, _, .nil => .nil
  | _, _, .cons h t => .cons (f _ _ h) (paired_rp f t)
theorem tg_tup {ix : List Nat} {es : List Expr} {kk : Nat} {n : Nat} {g : WGs} (hc : X.calm = true) (h : TrGs X ix es g) (hn : (assignEach es X.env).length = n := by rfl) (hst : (assignEach es X.env).findIdx? (·.1) = none := by rfl) : TrG X ix (.Tuple es kk pos) (gTp n g) := by
  obtain ⟨t, p, s⟩ := h.run
  refine ⟨_, pg_tup hc p hn hst, fun B F0 H0 F H σ st v d md Q Q' R r hw k => ?_⟩
  unfold gTp at hw
  split at hw
  · rename_i ds
    obtain ⟨hl, hq⟩ := hw
    cases md with
    | o m =>
      obtain ⟨a, vs, e1, h1, q1, _⟩ := r.tuple0
      exact ⟨a, vs, e1, rp_mono.seqT R.wf.fh h1, by rw [rpAll_len q1]; exact hl, s B F0 H0 F H σ st vs ds (.o m) Q Q' R (paired_rp (md := .o m) (fun v d h => .of h) q1) hq fun σ' st' R' n' w' q' => k σ' st' R' n' w' q'⟩
    | b =>
      obtain ⟨a, vs, e1, h1, h2, q1⟩ := r.srcT R.wf
      exact ⟨a, vs, e1, h1, by rw [rpAll_len q1]; exact hl, s B F0 H0 F H σ st vs ds .b Q Q' R (paired_rp (md := .b) (fun v d h => .scm h) q1) hq k⟩
  · exact hw.elim
def wAsg (g : WG) (u : WE) : WS := fun D st => u st fun d md => okK d md = true ∧ g d (.o 0) st D.nx
theorem ts_asg {ix : List Nat} {tg e : Expr} {g : WG} {u : WE} (h : TrE X e u) (hg : TrG X ix tg g) (hs : swapsWithSole [tg] e pos.line X.env = pure false := by rfl) (hw : swappedStores [tg] e X.env = pure none := by rfl) (h1 : (assignEach [tg] X.env).map (·.2) = [assign tg X.env] := by rfl) :
    TrS X (.Assign [tg] e pos) (wAsg g u) := by
  obtain ⟨t, p, s⟩ := h.run
  obtain ⟨t2, p2, s2⟩ := hg.run
  refine ⟨_, ps_asg p p2 hs hw h1, fun B F0 H0 F H σ st D D' R n hw k => s B F0 H0 F H σ st _ _ R hw fun x F1 H1 d md f x1 r1 n1 hq => ?_⟩
  obtain ⟨hk, hq⟩ := hq
  obtain ⟨x2, s3, h2⟩ := r1.keep hk x1 n1
  exact s2 B F0 H0 _ H1 σ st x d (.o 0) D.nx _ (R.go x2) (.of h2) hq fun σ' st' R' n' _ q' => k.nx σ' _ H1 st' x2.ff R' (n' rfl n) q'
end

def wFor (wi : WI) (g : WG) (b : WS) : WS := fun D st => wi st fun ds md => md = .o 0 ∧ ∃ I : Nat → AS → Prop, I 0 st ∧
  (∀ i d st', ds[i]? = some d → I i st' → g d (.o 0) st' fun st2 => b { D with nx := I (i + 1), ct := I (i + 1), bk := D.nx } st2) ∧ ∀ st', I ds.length st' → D.nx st'
def wWhile (c : WT) (b : WS) : WS := fun D st => ∃ I : Nat → AS → Prop, (∃ m, I m st) ∧ ∀ m st', I m st' →
  c st' fun k => match k with
    | true => b { D with nx := fun s => ∃ m', m' < m ∧ I m' s, ct := fun s => ∃ m', m' < m ∧ I m' s, bk := D.nx } st'
    | false => D.nx st'
section
variable {X : Cx} {pos : Pos} {it tg : Expr} {body : List Stmt} {wi : WI} {g : WG} {b : WS}
theorem ts_for {ix : List Nat} (hp : PassesOwn (model X.prog X.w) X.A X.env X.xe) (hc : X.calm = true) (hi : TrI X tg it wi) (hg : TrG X ix tg g) (hb : TrB X body b) (hs : ∀ x, foldedSetIterable it X.env x = pure x := by intro _; rfl) : TrS X (.For tg it body [] pos) (wFor wi g b) := by
  obtain ⟨ti, pi, si⟩ := hi.run
  obtain ⟨tgt, pg, sg⟩ := hg.run
  obtain ⟨tb, pb, sb⟩ := hb.run
  refine ⟨_, ps_for hp hc pi pg pb hs, fun B F0 H0 F H σ st D D' R n hw k => si B F0 H0 F H σ st _ _ R hw fun J F1 H1 ds md x1 ok hq => ?_⟩
  obtain ⟨e, I, i0, turn, done⟩ := hq
  subst e
  have ok' : ItOk X.K F1 J ds := ok
  refine ⟨fun i m σ' H' => m = ds.length - i ∧ i ≤ ds.length ∧ ∃ Fi st', SR X.K B F0 H0 Fi H' σ' st' ∧ NoB st' ∧ Same F1 Fi ∧ I i st', ⟨_, rfl, Nat.zero_le _, F1, st, R.go x1, n, Same.refl _, i0⟩, ?_⟩
  rintro i m σ' H' ⟨rfl, hi, Fi, st', R', n', sF, hI⟩
  have sG : Same F1 H' := sF.trans R'.wf.fh
  by_cases hlt : i < ds.length
  · obtain ⟨go, yld⟩ := (ok' i H' sG).1 hlt
    refine .inr ⟨go, fun σ2 H2 => ∃ F2 st2, SR X.K B F0 H0 F2 H2 σ2 st2 ∧ NoB st2 ∧ Same F1 F2 ∧ I (i + 1) st2, fun σ2 H2 ⟨F2, st2, R2, n2, s2, hI2⟩ => ⟨ds.length - (i + 1), by omega, rfl, hlt, F2, st2, R2, n2, s2, hI2⟩, fun x H2 hy => ?_⟩
    obtain ⟨d, hd, hc⟩ := yld x H2 hy
    have fin : ∀ Fk, SR X.K B F0 H0 Fk H2 σ' st' → Same F1 Fk → Same F Fk → Rp X.K Fk x d → tgt x σ' H2 fun σ2 H3 => tb { D' with nx := fun σ2 H2 => ∃ F2 st2, SR X.K B F0 H0 F2 H2 σ2 st2 ∧ NoB st2 ∧ Same F1 F2 ∧ I (i + 1) st2, ct := fun σ2 H2 => ∃ F2 st2, SR X.K B F0 H0 F2 H2 σ2 st2 ∧ NoB st2 ∧ Same F1 F2 ∧ I (i + 1) st2, bk := D'.nx } σ2 H3 := fun Fk Rk s1k sk hr => by
      refine sg B F0 H0 Fk H2 σ' st' x d (.o 0) _ _ Rk (.of hr) (turn i d st' hd hI) fun σ2 st2 R2 n2 _ q2 => ?_
      refine sb B F0 H0 Fk H2 σ2 st2 _ _ R2 (n2 rfl n') q2 ⟨fun σ3 F3 H3 st3 s3 R3 n3 q3 => ⟨F3, st3, R3, n3, s1k.trans s3, q3⟩, fun σ3 F3 H3 st3 s3 R3 n3 q3 => k.nx σ3 F3 H3 st3 (sk.trans s3) R3 n3 q3, fun σ3 F3 H3 st3 s3 R3 n3 q3 => ⟨F3, st3, R3, n3, s1k.trans s3, q3⟩, k.rt⟩
    rcases hc with ⟨e1, hr⟩ | ⟨T, xs, es, nT, e1, e2, e3, hr⟩
    · subst e1
      exact fin Fi R' sF (x1.ff.trans sF) (rp_mono sF _ _ hr)
    · subst e1 e2 e3
      have xl := Ext.laidF (o := .tup xs) R'.wf nT
      exact fin _ (R'.go xl) (sF.trans xl.ff) ((x1.ff.trans sF).trans xl.ff) (.tup (SqT.of upd_same) (rpAll_mono (sF.trans xl.ff) _ _ hr))
  · have e : i = ds.length := by omega
    subst e
    exact .inl ⟨(ok' _ H' sG).2 (Nat.le_refl _), k.nx σ' Fi H' st' (x1.ff.trans sF) R' n' (done st' hI)⟩
theorem ts_while {c : Expr} {w : WT} (hp : PassesOwn (model X.prog X.w) X.A X.env X.xe) (hc : TrT X c w) (hb : TrB X body b) : TrS X (.While c body [] pos) (wWhile w b) := by
  obtain ⟨tc, pc, sc⟩ := hc.run
  obtain ⟨tb, pb, sb⟩ := hb.run
  refine ⟨_, ps_while hp pc pb, fun B F0 H0 F H σ st D D' R n hw k => ?_⟩
  obtain ⟨I, ⟨m0, i0⟩, turn⟩ := hw
  refine ⟨fun m σ' H' => ∃ Fi st', SR X.K B F0 H0 Fi H' σ' st' ∧ NoB st' ∧ Same F Fi ∧ I m st', ⟨m0, F, st, R, n, Same.refl _, i0⟩, ?_⟩
  rintro m σ' H' ⟨Fi, st', R', n', sF, hI⟩
  refine sc B F0 H0 Fi H' σ' st' _ _ R' (turn m st' hI) fun q F2 H2 x2 hq => ?_
  cases q with
  | false => exact iteF (k.nx σ' F2 H2 st' (sF.trans x2.ff) (R'.go x2) n' hq)
  | true =>
    refine iteT ⟨fun σ2 H2 => ∃ m', m' < m ∧ ∃ F2 st2, SR X.K B F0 H0 F2 H2 σ2 st2 ∧ NoB st2 ∧ Same F F2 ∧ I m' st2, fun σ2 H2 hN => hN, ?_⟩
    exact sb B F0 H0 F2 H2 σ' st' _ _ (R'.go x2) n' hq ⟨fun σ3 F3 H3 st3 s3 R3 n3 ⟨m', hm, q3⟩ => ⟨m', hm, F3, st3, R3, n3, (sF.trans x2.ff).trans s3, q3⟩, fun σ3 F3 H3 st3 s3 R3 n3 q3 => k.nx σ3 F3 H3 st3 ((sF.trans x2.ff).trans s3) R3 n3 q3,
      fun σ3 F3 H3 st3 s3 R3 n3 ⟨m', hm, q3⟩ => ⟨m', hm, F3, st3, R3, n3, (sF.trans x2.ff).trans s3, q3⟩, k.rt⟩
end
end AL

namespace AL
open PySem PySem.Spec PyProof.Rows L2

def tE (K : PySem.W.Frag) (w : WE) : TE := fun σ H Q' => ∃ B F0 H0 F st Q, SR K B F0 H0 F H σ st ∧ w st Q ∧ ∀ v F' H' d md fp, Ext K B F H F' H' → TR K B F' H' v d md fp → (∀ a ∈ fp, H a = none) → Q d md → Q' v H'
def tT (K : PySem.W.Frag) (w : WT) : TT := fun σ H Q' => ∃ B F0 H0 F st Q, SR K B F0 H0 F H σ st ∧ w st Q ∧ ∀ c F' H', Ext K B F H F' H' → Q c → Q' c H'
def tG (K : PySem.W.Frag) (ix : List Nat) (w : WG) : TG := fun v σ H Q' => ∃ B F0 H0 F st d md Q, SR K B F0 H0 F H σ st ∧ TR K B F H v d md [] ∧ w d md st Q ∧
  ∀ σ' st', SR K B F0 H0 F H σ' st' → (md = .o 0 → NoB st → NoB st') → (∀ vs : List Nat, (∀ i ∈ ix, i ∈ vs) → wipe σ' vs = wipe σ vs) → Q st' → Q' σ' H
theorem TrE.pe {X : Cx} {e : Expr} {w : WE} (h : TrE X e w) : PE X e (tE X.K w) := by
  obtain ⟨t, p, s⟩ := h.run
  exact ⟨fun pins sh σ H Q' I ⟨B, F0, H0, F, st, Q, R, hw, k⟩ => p.run pins sh σ H Q' I (s B F0 H0 F H σ st Q Q' R hw k)⟩
theorem TrT.pt {X : Cx} {e : Expr} {w : WT} (h : TrT X e w) : PT X e (tT X.K w) := by
  obtain ⟨t, p, s⟩ := h.run
  exact ⟨fun pins sh σ H Q' I ⟨B, F0, H0, F, st, Q, R, hw, k⟩ => p.run pins sh σ H Q' I (s B F0 H0 F H σ st Q Q' R hw k)⟩
theorem TrG.pg {X : Cx} {ix : List Nat} {e : Expr} {w : WG} (h : TrG X ix e w) : PG X e (tG X.K ix w) := by
  obtain ⟨t, p, s⟩ := h.run
  exact ⟨fun pins sh σ H v u Q' I r ⟨B, F0, H0, F, st, d, md, Q, R, hr, hw, k⟩ => p.run pins sh σ H v u Q' I r (s B F0 H0 F H σ st v d md Q Q' R hr hw k)⟩
structure TrTs (X : Cx) (cs : List Expr) (w : WT) : Prop where
  run : PTs X cs (tT X.K w)
def wYes : WT := fun _ Q => Q true
theorem tts_nil {X : Cx} : TrTs X [] wYes := ⟨⟨fun pins sh σ H Q' I ⟨B, F0, H0, F, st, Q, R, hw, k⟩ => (pts_nil (X := X)).run pins sh σ H Q' I (k true F H (.refl R.wf) hw)⟩⟩
theorem tts_one {X : Cx} {c : Expr} {w : WT} (h : TrT X c w) : TrTs X [c] w := ⟨pts_one h.pt⟩

def eAcc : Option Nat → PyData → Md → Bool
  | some m, d, md => eOk m d md
  | none, _, _ => true
def wCmp (kd : Option Nat) (vs : List Nat) (wi : WI) (g : WG) (c : WT) (u : WE) (st : AS) (P : List PyData → Prop) : Prop := wi st fun ds md => ∃ I : Nat → List PyData → Prop, I 0 [] ∧
  (∀ i d acc, ds[i]? = some d → I i acc → g d (itm md) (wipeS st vs) fun st2 => c st2 fun k => match k with
    | true => u st2 fun r mr => eAcc kd r mr = true ∧ acc.length < sizeLine ∧ I (i + 1) (acc ++ [r])
    | false => I (i + 1) acc) ∧
  ∀ acc, I ds.length acc → P acc
def AccR (K : PySem.W.Frag) (B : Option Bx) (F H : Hp) (kd : Option Nat) (vs : List V) (acc : List PyData) (fs : List Addr) : Prop := match kd with
  | some m => Fp3 (Own K F H m) vs acc fs
  | none => vs.length = acc.length ∧ fs = []
theorem AccR.ext {K : PySem.W.Frag} {B : Option Bx} {F H F' H' : Hp} {kd : Option Nat} {vs : List V} {acc : List PyData} {fs : List Addr} (h : AccR K B F H kd vs acc fs) (e : Ext K B F H F' H') (n : ∀ a ∈ fs, nb B a) : AccR K B F' H' kd vs acc fs := by
  cases kd with
  | some m => exact fp3_ext h e n
  | none => exact h
theorem AccR.len {K : PySem.W.Frag} {B : Option Bx} {F H : Hp} {kd : Option Nat} {vs : List V} {acc : List PyData} {fs : List Addr} (h : AccR K B F H kd vs acc fs) : vs.length = acc.length := by
  cases kd with
  | some m => exact Fp3.len h
  | none => exact h.1
def wo (H : Hp) (D : Addr) : Hp := fun a => if a = D then none else H a
theorem wo_ne {H : Hp} {D a : Addr} (h : a ≠ D) : wo H D a = H a := by unfold wo; rw [if_neg h]
theorem wo_same {H : Hp} {D : Addr} : wo H D D = none := by unfold wo; rw [if_pos rfl]
theorem wo_upd {H : Hp} {D : Addr} {o : HO} : upd (wo H D) D o = upd H D o := by
  funext a
  by_cases h : a = D
  · subst h; rw [upd_same, upd_same]
  · rw [upd_ne h, upd_ne h, wo_ne h]
theorem era_wo {B : Option Bx} {H : Hp} {D a : Addr} {o : HO} (h : era B H a = some o) (n : a ≠ D) : era B (wo H D) a = some o := by
  obtain ⟨h1, h2⟩ := era_of h
  rw [era_nb h2, wo_ne n]; exact h1
section
variable {K : PySem.W.Frag}
theorem Ext.wo {B : Option Bx} {F Ho F' H' : Hp} {D : Addr} {o o' : HO} (nD : Ho D = none) (nB : nb B D) (w : Wf K B F Ho) (x : Ext K B F (upd Ho D o) F' H') (hD : H' D = some o') : Ext K B F Ho F' (AL.wo H' D) := by
  have fD : F' D = none := by
    cases q : F' D with
    | none => rfl
    | some u =>
      rcases x.nw D u q with z | z
      · rw [w.fh _ _ z] at nD; cases nD
      · rw [upd_same] at z; cases z
  refine ⟨fun a u n h => ?_, x.ff, fun a u h => ?_, ⟨fun a u h => ?_, x.wf.bn, fun y hy => ?_, x.wf.bd⟩⟩
  · have ha := ne_of_none h nD
    rw [wo_ne ha]
    exact x.hh a u n (by rw [upd_ne ha]; exact h)
  · rcases x.nw a u h with z | z
    · exact .inl z
    · by_cases q : a = D
      · subst q; rw [upd_same] at z; cases z
      · rw [upd_ne q] at z; exact .inr z
  · have ha : a ≠ D := fun q => by subst q; rw [fD] at h; cases h
    rw [wo_ne ha]; exact x.wf.fh _ _ h
  · obtain ⟨k, k0, hk⟩ := x.wf.bk y hy
    exact ⟨k, k0, by rw [wo_ne (nB y hy)]; exact hk⟩
theorem comp_core {kd : Option Nat} {ix vs : List Nat} {ti : TI} {wi : WI} {g : WG} {c : WT} {u : WE} (hix : ∀ i ∈ ix, i ∈ vs)
    (si : ∀ B F0 H0 F H σ st Q (Q' : It → Hp → Prop), SR K B F0 H0 F H σ st → wi st Q → (∀ J F' H' ds md, Ext K B F H F' H' → ItOk K (srcG B F' H' md) J ds → Q ds md → Q' J H') → ti σ H Q') :
    ∀ B F0 H0 F H σ st P (Q' : VK), SR K B F0 H0 F H σ st → wCmp kd vs wi g c u st P → (∀ D Fi Ho acc accV fs, Ho D = none → Ext K B F H Fi Ho → AccR K B Fi Ho kd accV acc fs → fs.Nodup → (∀ a ∈ fs, nb B a ∧ H a = none) → P acc → Q' (.ref D) (upd Ho D (.lst accV))) →
      tLc ti (tG K ix g) (tT K c) (tE K u) vs σ H Q' := by
  intro B F0 H0 F H σ st P Q' R hw k
  refine si B F0 H0 F H σ st _ _ R hw fun J F1 H1 ds md x1 ok hq D nD => ?_
  obtain ⟨I, i0, turn, done⟩ := hq
  have nBD := x1.wf.new nD
  refine ⟨fun i mm Hh => mm = ds.length - i ∧ i ≤ ds.length ∧ ∃ Fi Ho acc accV fs, Hh = upd Ho D (.lst accV) ∧ Ho D = none ∧ Ext K B F1 H1 Fi Ho ∧ AccR K B Fi Ho kd accV acc fs ∧ fs.Nodup ∧ (∀ a ∈ fs, nb B a ∧ H1 a = none) ∧ I i acc,
    ⟨_, rfl, Nat.zero_le _, F1, H1, [], [], [], rfl, nD, .refl x1.wf, ?_, List.nodup_nil, fun _ h => by simp at h, i0⟩, ?_⟩
  · cases kd with
    | some m => exact .nil
    | none => exact ⟨rfl, rfl⟩
  rintro i mm Hh ⟨rfl, hi, Fi, Ho, acc, accV, fs, rfl, nDo, xi, hacc, nd, fr, hI⟩
  have xD := Ext.laid (o := .lst accV) xi.wf nDo
  have sG : Same (srcG B F1 H1 md) (upd Ho D (.lst accV)) := by
    cases md with
    | o m => exact (xi.ff.trans xi.wf.fh).trans fun a o h => by rw [upd_ne (ne_of_none h nDo)]; exact h
    | b => exact (xi.era.trans xD.era).trans era_sub
  by_cases hlt : i < ds.length
  · obtain ⟨go, yld⟩ := (ok i _ sG).1 hlt
    refine .inr ⟨go, fun H' => ∃ mm, mm < ds.length - i ∧ (mm = ds.length - (i + 1) ∧ i + 1 ≤ ds.length ∧ ∃ Fi Ho acc accV fs, H' = upd Ho D (.lst accV) ∧ Ho D = none ∧ Ext K B F1 H1 Fi Ho ∧ AccR K B Fi Ho kd accV acc fs ∧ fs.Nodup ∧ (∀ a ∈ fs, nb B a ∧ H1 a = none) ∧ I (i + 1) acc), fun H' h => h, fun x H2 hy => ?_⟩
    obtain ⟨d, hd, hc⟩ := yld x H2 hy
    have t0 := turn i d acc hd hI
    have Ri := ((R.go x1).go xi).go xD
    have mk : ∀ {Hk : Hp}, ∀ Fk acc' accV' fs', Hk D = some (.lst accV') → Ext K B F1 H1 Fk (AL.wo Hk D) → AccR K B Fk (AL.wo Hk D) kd accV' acc' fs' → fs'.Nodup → (∀ a ∈ fs', nb B a ∧ H1 a = none) → I (i + 1) acc' →
        ∃ mm, mm < ds.length - i ∧ (mm = ds.length - (i + 1) ∧ i + 1 ≤ ds.length ∧ ∃ Fi Ho acc accV fs, Hk = upd Ho D (.lst accV) ∧ Ho D = none ∧ Ext K B F1 H1 Fi Ho ∧ AccR K B Fi Ho kd accV acc fs ∧ fs.Nodup ∧ (∀ a ∈ fs, nb B a ∧ H1 a = none) ∧ I (i + 1) acc) := fun {Hk} Fk acc' accV' fs' hD xk ak nk fk ik =>
      ⟨ds.length - (i + 1), by omega, rfl, hlt, Fk, AL.wo Hk D, acc', accV', fs', by
        rw [wo_upd]
        funext a
        by_cases h : a = D
        · subst h; rw [upd_same]; exact hD
        · rw [upd_ne h], wo_same, xk, ak, nk, fk, ik⟩
    have fin : ∀ (Fk Hk : Hp), Ext K B Fi (upd Ho D (.lst accV)) Fk Hk → TR K B Fk Hk x d (itm md) [] → tG K ix g x (wipe σ vs) Hk fun σ2 H2 => wipe σ2 vs = wipe σ vs ∧ tT K c σ2 H2 fun b H3 => if b = true then tE K u σ2 H3 fun y H4 => ∃ acc, H4 D = some (.lst acc) ∧ acc.length < sizeLine ∧ (∃ mm, mm < ds.length - i ∧ (mm = ds.length - (i + 1) ∧ i + 1 ≤ ds.length ∧ ∃ Fi Ho acc' accV fs, upd H4 D (.lst (acc ++ [y])) = upd Ho D (.lst accV) ∧ Ho D = none ∧ Ext K B F1 H1 Fi Ho ∧ AccR K B Fi Ho kd accV acc' fs ∧ fs.Nodup ∧ (∀ a ∈ fs, nb B a ∧ H1 a = none) ∧ I (i + 1) acc')) else (∃ mm, mm < ds.length - i ∧ (mm = ds.length - (i + 1) ∧ i + 1 ≤ ds.length ∧ ∃ Fi Ho acc accV fs, H3 = upd Ho D (.lst accV) ∧ Ho D = none ∧ Ext K B F1 H1 Fi Ho ∧ AccR K B Fi Ho kd accV acc fs ∧ fs.Nodup ∧ (∀ a ∈ fs, nb B a ∧ H1 a = none) ∧ I (i + 1) acc)) := fun Fk Hk xk hr => by
      have Rk := (Ri.go xk).wipe vs
      refine ⟨B, F0, H0, Fk, _, d, itm md, _, Rk, hr, t0, fun σ2 st2 R2 _ w2 q2 => ⟨?_, ?_⟩⟩
      · rw [w2 vs hix, wipe_wipe]
      refine ⟨B, F0, H0, Fk, st2, _, R2, q2, fun q F3 H3 x3 hq3 => ?_⟩
      have xk3 := xk.trans x3
      have hD3 : H3 D = some (.lst accV) := xk3.hh D _ nBD upd_same
      cases q with
      | false =>
        have xo := xk3.wo nDo nBD xi.wf hD3
        refine iteF (mk F3 acc accV fs hD3 (xi.trans xo) (hacc.ext xo fun a ha => (fr a ha).1) nd fr hq3)
      | true =>
        refine iteT ⟨B, F0, H0, F3, st2, _, R2.go x3, hq3, fun y F4 H4 r mr f4 x4 r4 n4 hq4 => ?_⟩
        obtain ⟨hk, hz, hI'⟩ := hq4
        have xk4 := xk3.trans x4
        have hD4 : H4 D = some (.lst accV) := xk4.hh D _ nBD upd_same
        have n4' : ∀ a ∈ f4, (upd Ho D (.lst accV)) a = none := fun a ha => xk3.old (r4.2.1 a ha) (n4 a ha)
        refine ⟨accV, hD4, by rw [hacc.len]; exact hz, ?_⟩
        have hwo : ∀ o, AL.wo (upd H4 D o) D = AL.wo H4 D := fun o => by
          funext a
          by_cases h : a = D
          · subst h; rw [wo_same, wo_same]
          · rw [wo_ne h, wo_ne h, upd_ne h]
        cases kd with
        | none =>
          have xo := xk4.wo nDo nBD xi.wf hD4
          have h1 := hacc.ext xo fun a ha => (fr a ha).1
          refine mk F4 (acc ++ [r]) (accV ++ [y]) fs upd_same (by rw [hwo]; exact xi.trans xo) ?_ nd fr hI'
          rw [hwo]
          exact ⟨by rw [List.length_append, List.length_append, h1.1]; rfl, h1.2⟩
        | some m =>
          obtain ⟨F5, g5, x5, _, s5, o5, nd5, fr5, _, _⟩ := r4.item xk4 n4' hk
          have hD5 : H4 D = some (.lst accV) := hD4
          have xo := x5.wo nDo nBD xi.wf hD5
          have h1 : Fp3 (Own K F5 (AL.wo H4 D) m) accV acc fs := hacc.ext xo fun a ha => (fr a ha).1
          have gD : ∀ a ∈ g5, a ≠ D := fun a ha q => by
            have := (fr5 a ha).2
            rw [q, upd_same] at this; cases this
          have o6 : Own K F5 (AL.wo H4 D) m y r g5 := own_mono (Same.refl _) m _ _ _ o5 (fun a ha o h => by rw [wo_ne (gD a ha)]; exact h) fun _ _ h => h
          have frO : ∀ a ∈ g5, Ho a = none := fun a ha => by
            have := (fr5 a ha).2
            rw [upd_ne (gD a ha)] at this; exact this
          refine mk F5 (acc ++ [r]) (accV ++ [y]) (fs ++ (g5 ++ [])) upd_same (by rw [hwo]; exact xi.trans xo) ?_ ?_ (fun a ha => ?_) hI'
          · rw [hwo]
            exact Fp3.app h1 (.cons o6 .nil)
          · rw [List.append_nil]
            refine fp3_nodup_app nd nd5 fun a ha hb => ?_
            obtain ⟨⟨ys, hy⟩, _⟩ := fp3_live (fun v d f => own_live m v d f) (show Fp3 (Own K Fi Ho m) accV acc fs from hacc) a ha
            rw [frO a hb] at hy; cases hy
          · rw [List.append_nil] at ha
            rcases List.mem_append.mp ha with q | q
            · exact fr a q
            · exact ⟨(fr5 a q).1, xi.old (fr5 a q).1 (frO a q)⟩
    rcases hc with ⟨e1, hr⟩ | ⟨T, xs, es, nT, e1, e2, e3, hr⟩
    · subst e1
      refine fin Fi _ (.refl xD.wf) ?_
      cases md with
      | o m => exact .of (rp_mono xi.ff _ _ hr)
      | b => exact ⟨List.nodup_nil, fun _ h => by simp at h, rp_mono (xi.era.trans xD.era) _ _ hr, rfl⟩
    · subst e1 e2 e3
      cases md with
      | o m =>
        have xl := Ext.laidF (o := .tup xs) xD.wf nT
        exact fin _ _ xl (.of (.tup (SqT.of upd_same) (rpAll_mono (xi.ff.trans xl.ff) _ _ hr)))
      | b =>
        obtain ⟨xl, tl⟩ := newTb (.refl xD.wf) nT (rpAll_mono (xi.era.trans xD.era) _ _ hr)
        exact fin _ _ xl tl
  · have e : i = ds.length := by omega
    subst e
    exact .inl ⟨(ok _ _ sG).2 (Nat.le_refl _), k D Fi Ho acc accV fs nDo (x1.trans xi) hacc nd (fun a ha => ⟨(fr a ha).1, x1.old (fr a ha).1 (fr a ha).2⟩) (done acc hI)⟩
end
def wComp (m : Nat) (vs : List Nat) (wi : WI) (g : WG) (c : WT) (u : WE) : WE := fun st Q => wCmp (some m) vs wi g c u st fun acc => Q (.list acc) (.o (m + 1))
theorem comp_own {K : PySem.W.Frag} {m : Nat} {ix vs : List Nat} {ti : TI} {wi : WI} {g : WG} {c : WT} {u : WE} (hix : ∀ i ∈ ix, i ∈ vs)
    (si : ∀ B F0 H0 F H σ st Q (Q' : It → Hp → Prop), SR K B F0 H0 F H σ st → wi st Q → (∀ J F' H' ds md, Ext K B F H F' H' → ItOk K (srcG B F' H' md) J ds → Q ds md → Q' J H') → ti σ H Q') :
    ∀ B F0 H0 F H σ st Q (Q' : VK), SR K B F0 H0 F H σ st → wComp m vs wi g c u st Q → (∀ v F' H' d md fp, Ext K B F H F' H' → TR K B F' H' v d md fp → (∀ a ∈ fp, H a = none) → Q d md → Q' v H') → tLc ti (tG K ix g) (tT K c) (tE K u) vs σ H Q' := by
  intro B F0 H0 F H σ st Q Q' R hw k
  refine comp_core hix si B F0 H0 F H σ st _ Q' R hw fun D Fi Ho acc accV fs nD x ha nd fr hp => ?_
  have xD := Ext.laid (o := .lst accV) x.wf nD
  have nB := x.wf.new nD
  refine k _ Fi _ (.list acc) (.o (m + 1)) (D :: fs) (x.trans xD) ⟨?_, fun a h => ?_, D, accV, fs, rfl, upd_same, x.wf.fh.free nD, fp3_ext ha xD fun a h => (fr a h).1, rfl⟩ (fun a h => ?_) hp
  · refine List.nodup_cons.mpr ⟨fun h => ?_, nd⟩
    obtain ⟨⟨ys, hy⟩, _⟩ := fp3_live (fun v d f => own_live m v d f) (show Fp3 (Own K Fi Ho m) accV acc fs from ha) D h
    rw [nD] at hy; cases hy
  · rcases List.mem_cons.mp h with q | q
    · rw [q]; exact nB
    · exact (fr a q).1
  · rcases List.mem_cons.mp h with q | q
    · rw [q]; exact x.old nB nD
    · exact (fr a q).2
section
variable {X : Cx} {elt tg iter : Expr} {ifs : List Expr} {scope : Scope} {own : List (Str × Nat)} {pos spos : Pos} {ix : List Nat} {wi : WI} {g : WG} {c : WT} {u : WE}
theorem te_comp (m : Nat) (hc : X.calm = true) (hN : X.N.Nodup) (hi : TrI X tg iter wi) (ok : BlkOk X.N X.env.scope scope own)
    (hg : ∀ (s : Shared) (H : Hp) (C : Addr) (cl : List (Str × Addr)) (fp : List Addr), TrG (X.blk s H scope (compEnvC scope cl C X.env) fp) ix tg g)
    (ht : ∀ (s : Shared) (H : Hp) (C : Addr) (cl : List (Str × Addr)) (fp : List Addr), TrTs (X.blk s H scope (compEnvC scope cl C X.env) fp) ifs c)
    (he : ∀ (s : Shared) (H : Hp) (C : Addr) (cl : List (Str × Addr)) (fp : List Addr), TrE (X.blk s H scope (compEnvC scope cl C X.env) fp) elt u) (hix : ∀ i ∈ ix, i ∈ own.map (·.2) := by decide) (hs : ∀ x, foldedSetIterable iter X.env x = pure x := by intro _; rfl) :
    TrE X (.ListComp elt [⟨tg, iter, ifs, 0⟩] scope pos) (wComp m (own.map (·.2)) wi g c u) := by
  obtain ⟨ti, pi, si⟩ := hi.run
  exact ⟨_, pe_lc (te := tE X.K u) (g := tG X.K ix g) (tt := tT X.K c) hc hN pi ok (fun s H C cl fp => (hg s H C cl fp).pg) (fun s H C cl fp => (ht s H C cl fp).run) (fun s H C cl fp => (he s H C cl fp).pe) hs, comp_own hix si⟩
theorem ts_comp (i : Nat) (keep : Bool) (m : Nat) {y : Str} {py : Pos} (hc : X.calm = true) (hN : X.N.Nodup) (hyl : X.env.scope.names.lookup y = some .local)
    (hsw : swapsWith (.ListComp elt [⟨tg, iter, ifs, 0⟩] scope pos) (some (.Name y py)) spos.line X.env = pure true) (hi : TrI X tg iter wi) (ok : BlkOk X.N X.env.scope scope own)
    (hg : ∀ (s : Shared) (H : Hp) (C : Addr) (cl : List (Str × Addr)) (fp : List Addr), TrG (X.blk s H scope (compEnvC scope cl C X.env) fp) ix tg g)
    (ht : ∀ (s : Shared) (H : Hp) (C : Addr) (cl : List (Str × Addr)) (fp : List Addr), TrTs (X.blk s H scope (compEnvC scope cl C X.env) fp) ifs c)
    (he : ∀ (s : Shared) (H : Hp) (C : Addr) (cl : List (Str × Addr)) (fp : List Addr), TrE (X.blk s H scope (compEnvC scope cl C X.env) fp) elt u) (hy : X.N[i]? = some y := by rfl) (hix : ∀ i ∈ ix, i ∈ own.map (·.2) := by decide) (hs : ∀ x, foldedSetIterable iter X.env x = pure x := by intro _; rfl) :
    TrS X (.Assign [.Name y py] (.ListComp elt [⟨tg, iter, ifs, 0⟩] scope pos) spos) (wSet i keep (wComp m (own.map (·.2)) wi g c u)) := by
  obtain ⟨ti, pi, si⟩ := hi.run
  refine ⟨_, ps_setLc (te := tE X.K u) (g := tG X.K ix g) (tt := tT X.K c) hc hN hy hyl hsw pi ok (fun s H C cl fp => (hg s H C cl fp).pg) (fun s H C cl fp => (ht s H C cl fp).run) (fun s H C cl fp => (he s H C cl fp).pe) hs, fun B F0 H0 F H σ st D D' R n hw k => ?_⟩
  refine comp_own hix si B F0 H0 F H σ st _ _ R hw fun v F' H' d md fp x r fr q => ?_
  obtain ⟨hi', q⟩ := q
  split at q
  · rename_i m hk
    obtain ⟨F2, s2, R2⟩ := R.store n x r fr hi' hk
    exact k.nx _ F2 H' _ s2 R2 (noB_put n) q
  · exact q.elim
def wCompLen (vs : List Nat) (wi : WI) (g : WG) (c : WT) (u : WE) : WE := fun st Q => wCmp none vs wi g c u st fun acc => Q (.int acc.length) (.o 0)
theorem te_compLen {p lpos : Pos} (hgl : Gl X "len") (hml : X.mg "len" = none) (hc : X.calm = true) (hN : X.N.Nodup) (hi : TrI X tg iter wi) (ok : BlkOk X.N X.env.scope scope own)
    (hg : ∀ (s : Shared) (H : Hp) (C : Addr) (cl : List (Str × Addr)) (fp : List Addr), TrG (X.blk s H scope (compEnvC scope cl C X.env) fp) ix tg g)
    (ht : ∀ (s : Shared) (H : Hp) (C : Addr) (cl : List (Str × Addr)) (fp : List Addr), TrTs (X.blk s H scope (compEnvC scope cl C X.env) fp) ifs c)
    (he : ∀ (s : Shared) (H : Hp) (C : Addr) (cl : List (Str × Addr)) (fp : List Addr), TrE (X.blk s H scope (compEnvC scope cl C X.env) fp) elt u) (hix : ∀ i ∈ ix, i ∈ own.map (·.2) := by decide) (hs : ∀ x, foldedSetIterable iter X.env x = pure x := by intro _; rfl)
    (hst : starEach [.ListComp elt [⟨tg, iter, ifs, 0⟩] scope pos] X.env = (false, eval (.ListComp elt [⟨tg, iter, ifs, 0⟩] scope pos) X.env) :: starEach [] X.env := by rfl) :
    TrE X (.Call (.Name "len" p) [.ListComp elt [⟨tg, iter, ifs, 0⟩] scope pos] [] lpos) (wCompLen (own.map (·.2)) wi g c u) := by
  obtain ⟨ti, pi, si⟩ := hi.run
  refine ⟨_, pe_callB call_len_seq hgl hml PySem.boot_len (pa_cons (pe_lc (te := tE X.K u) (g := tG X.K ix g) (tt := tT X.K c) hc hN pi ok (fun s H C cl fp => (hg s H C cl fp).pg) (fun s H C cl fp => (ht s H C cl fp).run) (fun s H C cl fp => (he s H C cl fp).pe) hs) pa_nil hst) (by decide) (by decide) hst rfl, fun B F0 H0 F H σ st Q Q' R hw k => ?_⟩
  refine comp_core (hix := hix) (si := si) B F0 H0 F H σ st _ (fun x H1 => ∃ p ys, [x] = [V.ref p] ∧ (SqL X.K H1 p ys ∨ SqT X.K H1 p ys) ∧ Q' (V.int ys.length) H1) R hw fun D Fi Ho acc accV fs nD x ha nd fr hp => ?_
  refine ⟨D, accV, rfl, .inl (SqL.of upd_same), k _ Fi _ (.int acc.length) (.o 0) [] (x.trans (.laid x.wf nD)) (.of ?_) (fun _ h => by simp at h) hp⟩
  rw [ha.1]
  exact .int _
end
end AL

namespace AL
open PySem PySem.Spec PyProof.Rows L2

abbrev Fn1 := PyData → Md → QE → Prop
def w1 (a : Fn1) (u : WE) : WE := fun st Q => u st fun d m => a d m Q
def CallA (X : Cx) (r : List V → Hp → VK → Prop) (a : Fn1) : Prop := ∀ (B : Option Bx) (Fs Hs F H : Hp) (x : V) (d : PyData) (m : Md) (f : List Addr) (Q : QE) (Q' : VK), Ext X.K B Fs Hs F H → TR X.K B F H x d m f → (∀ a ∈ f, Hs a = none) → a d m Q →
  (∀ v F' H' d md fp, Ext X.K B Fs Hs F' H' → TR X.K B F' H' v d md fp → (∀ a ∈ fp, Hs a = none) → Q d md → Q' v H') → r [x] H Q'
section
variable {X : Cx} {e E : Expr} {u : WE} {r : List V → Hp → VK → Prop} {a : Fn1}
theorem te_c1 (hpe : ∀ {t : TA}, PA X [e] t → PE X E (tCB r t)) (ha : CallA X r a) (h : TrE X e u) (hst : starEach [e] X.env = (false, eval e X.env) :: starEach [] X.env) : TrE X E (w1 a u) := by
  obtain ⟨t, p, s⟩ := h.run
  exact ⟨_, hpe (pa_cons p pa_nil hst), fun B F0 H0 F H σ st Q Q' R hw k => s B F0 H0 F H σ st _ (fun x H1 => r [x] H1 Q') R hw fun x F1 H1 d md f x1 r1 n1 hq => ha B F H F1 H1 x d md f Q Q' x1 r1 n1 hq k⟩
theorem ca_read (h : ∀ (B : Option Bx) (F H : Hp) (x : V) (d : PyData) (m : Md) (Q : QE) (Q' : VK), Wf X.K B F H → Rp X.K (era B H) x d → a d m Q → (∀ v d, (∀ F, Rp X.K F v d) → Q d (.o 0) → Q' v H) → r [x] H Q') : CallA X r a :=
  fun B Fs Hs F H x d m f Q Q' ex r1 n1 hw k => h B F H x d m Q Q' ex.wf (r1.read ex.wf) hw fun v d hr hq => k v F H d (.o 0) [] ex (.of (hr F)) (fun _ h => by simp at h) hq
end
def aLen : Fn1 := fun d _ Q => match d with
  | .list ds => Q (.int ds.length) (.o 0)
  | .tuple ds => Q (.int ds.length) (.o 0)
  | .str z => z.length ≤ sizeLine ∧ Q (.int z.length) (.o 0)
  | _ => False
def aInt : Fn1 := fun d _ Q => match d with
  | .int i => Q (.int i) (.o 0)
  | .bool k => Q (.int (if k then 1 else 0)) (.o 0)
  | _ => False
def aList : Fn1 := fun d m Q => match d with
  | .list ds => Q (.list ds) (jn (okL ds m) true)
  | .tuple ds => okL ds m = true ∧ Q (.list ds) (.o 1)
  | _ => False
def aTuple : Fn1 := fun d m Q => match d with
  | .list ds => okL ds m = true ∧ Q (.tuple ds) (.o 0)
  | .tuple ds => isO m = true ∧ Q (.tuple ds) (.o 0)
  | _ => False
def aSum : Fn1 := fun d _ Q => match d with
  | .list ds => ∃ ns : List Int, ds = ns.map .int ∧ Q (.int ns.sum) (.o 0)
  | _ => False
def maxI : List Int → Int
  | [] => 0
  | x :: r => r.foldl (fun a b => if a < b then b else a) x
def minI : List Int → Int
  | [] => 0
  | x :: r => r.foldl (fun a b => if b < a then b else a) x
def aMax : Fn1 := fun d _ Q => match d with
  | .list ds => ∃ ns : List Int, ds = ns.map .int ∧ ns ≠ [] ∧ Q (.int (maxI ns)) (.o 0)
  | _ => False
def aMin : Fn1 := fun d _ Q => match d with
  | .list ds => ∃ ns : List Int, ds = ns.map .int ∧ ns ≠ [] ∧ Q (.int (minI ns)) (.o 0)
  | _ => False
def aAny : Fn1 := fun d _ Q => match d with
  | .list ds => ∃ bs : List Bool, ds = bs.map .bool ∧ Q (.bool (bs.any id)) (.o 0)
  | _ => False
def aAll : Fn1 := fun d _ Q => match d with
  | .list ds => ∃ bs : List Bool, ds = bs.map .bool ∧ Q (.bool (bs.all id)) (.o 0)
  | _ => False
def aAbs : Fn1 := fun d _ Q => match d with
  | .int i => Q (.int (if i < 0 then -i else i)) (.o 0)
  | _ => False
def aStr : Fn1 := fun d _ Q => match d with
  | .int i => i.natAbs < 2 ^ 1920 ∧ Q (.str (toString i)) (.o 0)
  | _ => False
theorem rpAll_intsV {K : PySem.W.Frag} {H : Hp} : ∀ {ns : List Int} {vs : List V}, RpAll K H vs (ns.map .int) → vs = ns.map V.int
  | [], _, h => by cases h; rfl
  | n :: r, _, h => by
    cases h with
    | cons h1 h2 =>
      cases h1
      rw [rpAll_intsV h2]
      rfl
theorem rpAll_boolsV {K : PySem.W.Frag} {H : Hp} : ∀ {ns : List Bool} {vs : List V}, RpAll K H vs (ns.map .bool) → vs = ns.map V.bl
  | [], _, h => by cases h; rfl
  | n :: r, _, h => by
    cases h with
    | cons h1 h2 =>
      cases h1
      rw [rpAll_boolsV h2]
      rfl
theorem foldl_max_mem : ∀ (r : List Int) (x : Int), let m := r.foldl (fun a b => if a < b then b else a) x; (m = x ∨ m ∈ r) ∧ x ≤ m ∧ ∀ y ∈ r, y ≤ m
  | [], x => ⟨.inl rfl, Int.le_refl _, fun _ h => by simp at h⟩
  | b :: r, x => by
    have ih := foldl_max_mem r (if x < b then b else x)
    simp only [List.foldl_cons]
    obtain ⟨h1, h2, h3⟩ := ih
    by_cases h : x < b
    · rw [if_pos h] at h1 h2 h3 ⊢
      refine ⟨.inr ?_, by omega, fun y hy => ?_⟩
      · rcases h1 with q | q
        · rw [q]; exact List.mem_cons_self ..
        · exact List.mem_cons_of_mem _ q
      · rcases List.mem_cons.mp hy with q | q
        · rw [q]; exact h2
        · exact h3 y q
    · rw [if_neg h] at h1 h2 h3 ⊢
      refine ⟨h1.imp id (List.mem_cons_of_mem _), h2, fun y hy => ?_⟩
      rcases List.mem_cons.mp hy with q | q
      · rw [q]; omega
      · exact h3 y q
theorem foldl_min_mem : ∀ (r : List Int) (x : Int), let m := r.foldl (fun a b => if b < a then b else a) x; (m = x ∨ m ∈ r) ∧ m ≤ x ∧ ∀ y ∈ r, m ≤ y
  | [], x => ⟨.inl rfl, Int.le_refl _, fun _ h => by simp at h⟩
  | b :: r, x => by
    have ih := foldl_min_mem r (if b < x then b else x)
    simp only [List.foldl_cons]
    obtain ⟨h1, h2, h3⟩ := ih
    by_cases h : b < x
    · rw [if_pos h] at h1 h2 h3 ⊢
      refine ⟨.inr ?_, by omega, fun y hy => ?_⟩
      · rcases h1 with q | q
        · rw [q]; exact List.mem_cons_self ..
        · exact List.mem_cons_of_mem _ q
      · rcases List.mem_cons.mp hy with q | q
        · rw [q]; exact h2
        · exact h3 y q
    · rw [if_neg h] at h1 h2 h3 ⊢
      refine ⟨h1.imp id (List.mem_cons_of_mem _), h2, fun y hy => ?_⟩
      rcases List.mem_cons.mp hy with q | q
      · rw [q]; omega
      · exact h3 y q
theorem maxI_mem {ns : List Int} (h : ns ≠ []) : maxI ns ∈ ns := by
  cases ns with
  | nil => exact absurd rfl h
  | cons x r => exact (foldl_max_mem r x).1.elim (fun q => by show r.foldl _ x ∈ _; rw [q]; exact List.mem_cons_self ..) (List.mem_cons_of_mem _)
theorem maxI_ge {ns : List Int} : ∀ y ∈ ns, y ≤ maxI ns := by
  cases ns with
  | nil => intro y h; simp at h
  | cons x r =>
    intro y hy
    rcases List.mem_cons.mp hy with q | q
    · rw [q]; exact (foldl_max_mem r x).2.1
    · exact (foldl_max_mem r x).2.2 y q
theorem minI_mem {ns : List Int} (h : ns ≠ []) : minI ns ∈ ns := by
  cases ns with
  | nil => exact absurd rfl h
  | cons x r => exact (foldl_min_mem r x).1.elim (fun q => by show r.foldl _ x ∈ _; rw [q]; exact List.mem_cons_self ..) (List.mem_cons_of_mem _)
theorem minI_le {ns : List Int} : ∀ y ∈ ns, minI ns ≤ y := by
  cases ns with
  | nil => intro y h; simp at h
  | cons x r =>
    intro y hy
    rcases List.mem_cons.mp hy with q | q
    · rw [q]; exact (foldl_min_mem r x).2.1
    · exact (foldl_min_mem r x).2.2 y q
section
variable {X : Cx} {e : Expr} {u : WE} {p pos : Pos}
theorem ca_len : CallA X (fun xs H Q => ∃ x n, xs = [x] ∧ LenV X.K x H n ∧ Q (.int n) H) aLen := by
  refine ca_read fun B F H x d m Q Q' w h hw k => ?_
  unfold aLen at hw
  split at hw
  · cases h with
    | lst h1 h2 =>
      refine ⟨_, _, rfl, .inl ⟨_, SqL.of (era_of h1).1, rfl⟩, k _ _ (fun _ => ?_) hw⟩
      rw [rpAll_len h2]; exact .int _
  · cases h with
    | tup h1 h2 =>
      refine ⟨_, _, rfl, .inr ⟨_, rp_mono.seqT era_sub h1, rfl⟩, k _ _ (fun _ => ?_) hw⟩
      rw [rpAll_len h2]; exact .int _
  · cases h
    exact ⟨_, _, rfl, ⟨hw.1, rfl⟩, k _ _ (fun _ => .int _) hw.2⟩
  · exact hw.elim
theorem te_len (h : TrE X e u) (hg : Gl X "len") (hm : X.mg "len" = none) (hst : starEach [e] X.env = (false, eval e X.env) :: starEach [] X.env := by rfl) : TrE X (.Call (.Name "len" p) [e] [] pos) (w1 aLen u) :=
  te_c1 (fun q => pe_callB call_len hg hm PySem.boot_len q (by decide) (by decide) hst rfl) ca_len h hst
theorem ca_int : CallA X (fun xs H Q => (∃ i, xs = [.int i] ∧ Q (.int i) H) ∨ ∃ k, xs = [.bl k] ∧ Q (.int (if k then 1 else 0)) H) aInt := by
  refine ca_read fun B F H x d m Q Q' w h hw k => ?_
  unfold aInt at hw
  split at hw
  · cases h; exact .inl ⟨_, rfl, k _ _ (fun _ => .int _) hw⟩
  · cases h; exact .inr ⟨_, rfl, k _ _ (fun _ => .int _) hw⟩
  · exact hw.elim
theorem te_intf (h : TrE X e u) (hg : Gl X "int") (hm : X.mg "int" = none) (hst : starEach [e] X.env = (false, eval e X.env) :: starEach [] X.env := by rfl) : TrE X (.Call (.Name "int" p) [e] [] pos) (w1 aInt u) :=
  te_c1 (fun q => pe_callTy call_int1 hg hm (by decide +kernel) q (by decide) (by decide) hst rfl) ca_int h hst
theorem ca_abs : CallA X (fun xs H Q => ∃ i, xs = [.int i] ∧ Q (.int (if i < 0 then -i else i)) H) aAbs := by
  refine ca_read fun B F H x d m Q Q' w h hw k => ?_
  unfold aAbs at hw
  split at hw
  · cases h; exact ⟨_, rfl, k _ _ (fun _ => .int _) hw⟩
  · exact hw.elim
theorem te_abs (h : TrE X e u) (hg : Gl X "abs") (hm : X.mg "abs" = none) (hst : starEach [e] X.env = (false, eval e X.env) :: starEach [] X.env := by rfl) : TrE X (.Call (.Name "abs" p) [e] [] pos) (w1 aAbs u) :=
  te_c1 (fun q => pe_callB call_abs hg hm (by decide +kernel) q (by decide) (by decide) hst rfl) ca_abs h hst
theorem ca_str : CallA X (fun xs H Q => ∃ i, xs = [.int i] ∧ i.natAbs.log2 < 1920 ∧ Q (.str (toString i)) H) aStr := by
  refine ca_read fun B F H x d m Q Q' w h hw k => ?_
  unfold aStr at hw
  split at hw
  · rename_i i
    cases h
    refine ⟨_, rfl, ?_, k _ _ (fun _ => .str _) hw.2⟩
    by_cases z : i.natAbs = 0
    · rw [z]; decide
    · exact (Nat.log2_lt z).mpr hw.1
  · exact hw.elim
theorem te_strf (h : TrE X e u) (hg : Gl X "str") (hm : X.mg "str" = none) (hst : starEach [e] X.env = (false, eval e X.env) :: starEach [] X.env := by rfl) : TrE X (.Call (.Name "str" p) [e] [] pos) (w1 aStr u) :=
  te_c1 (fun q => pe_callTy call_str_int hg hm (by decide +kernel) q (by decide) (by decide) hst rfl) ca_str h hst
theorem ca_sum : CallA X (rSum X.K) aSum := by
  refine ca_read fun B F H x d m Q Q' w h hw k => ?_
  unfold aSum at hw
  split at hw
  · obtain ⟨ns, e, hq⟩ := hw
    subst e
    cases h with
    | lst h1 h2 =>
      have e := rpAll_intsV h2
      subst e
      exact ⟨_, ns, rfl, SqL.of (era_of h1).1, k _ _ (fun _ => .int _) hq⟩
  · exact hw.elim
theorem te_sum (hc : X.calm = true) (h : TrE X e u) (hg : Gl X "sum") (hm : X.mg "sum" = none) (hst : starEach [e] X.env = (false, eval e X.env) :: starEach [] X.env := by rfl) : TrE X (.Call (.Name "sum" p) [e] [] pos) (w1 aSum u) :=
  te_c1 (fun q => pe_callB (cr_sum hc) hg hm (by decide +kernel) q (by decide) (by decide) hst rfl) ca_sum h hst
theorem ca_max : CallA X (rMax X.K) aMax := by
  refine ca_read fun B F H x d m Q Q' w h hw k => ?_
  unfold aMax at hw
  split at hw
  · obtain ⟨ns, e, hne, hq⟩ := hw
    subst e
    cases h with
    | lst h1 h2 =>
      have e := rpAll_intsV h2
      subst e
      refine ⟨_, ns, rfl, SqL.of (era_of h1).1, List.length_pos_iff.mpr hne, fun m h3 h4 => ?_⟩
      have e : m = maxI ns := Int.le_antisymm (maxI_ge m h3) (h4 _ (maxI_mem hne))
      subst e
      exact k _ _ (fun _ => .int _) hq
  · exact hw.elim
theorem te_max (hc : X.calm = true) (h : TrE X e u) (hg : Gl X "max") (hm : X.mg "max" = none) (hst : starEach [e] X.env = (false, eval e X.env) :: starEach [] X.env := by rfl) : TrE X (.Call (.Name "max" p) [e] [] pos) (w1 aMax u) :=
  te_c1 (fun q => pe_callB (cr_max hc) hg hm (by decide +kernel) q (by decide) (by decide) hst rfl) ca_max h hst
theorem ca_min : CallA X (rMin X.K) aMin := by
  refine ca_read fun B F H x d m Q Q' w h hw k => ?_
  unfold aMin at hw
  split at hw
  · obtain ⟨ns, e, hne, hq⟩ := hw
    subst e
    cases h with
    | lst h1 h2 =>
      have e := rpAll_intsV h2
      subst e
      refine ⟨_, ns, rfl, SqL.of (era_of h1).1, List.length_pos_iff.mpr hne, fun m h3 h4 => ?_⟩
      have e : m = minI ns := Int.le_antisymm (h4 _ (minI_mem hne)) (minI_le m h3)
      subst e
      exact k _ _ (fun _ => .int _) hq
  · exact hw.elim
theorem te_min (hc : X.calm = true) (h : TrE X e u) (hg : Gl X "min") (hm : X.mg "min" = none) (hst : starEach [e] X.env = (false, eval e X.env) :: starEach [] X.env := by rfl) : TrE X (.Call (.Name "min" p) [e] [] pos) (w1 aMin u) :=
  te_c1 (fun q => pe_callB (cr_min hc) hg hm (by decide +kernel) q (by decide) (by decide) hst rfl) ca_min h hst
theorem ca_any : CallA X (rAny X.K) aAny := by
  refine ca_read fun B F H x d m Q Q' w h hw k => ?_
  unfold aAny at hw
  split at hw
  · obtain ⟨ns, e, hq⟩ := hw
    subst e
    cases h with
    | lst h1 h2 =>
      have e := rpAll_boolsV h2
      subst e
      exact ⟨_, ns, rfl, SqL.of (era_of h1).1, k _ _ (fun _ => .bl _) hq⟩
  · exact hw.elim
theorem te_any (hc : X.calm = true) (h : TrE X e u) (hg : Gl X "any") (hm : X.mg "any" = none) (hst : starEach [e] X.env = (false, eval e X.env) :: starEach [] X.env := by rfl) : TrE X (.Call (.Name "any" p) [e] [] pos) (w1 aAny u) :=
  te_c1 (fun q => pe_callB (cr_any hc) hg hm (by decide +kernel) q (by decide) (by decide) hst rfl) ca_any h hst
theorem ca_all : CallA X (rAll X.K) aAll := by
  refine ca_read fun B F H x d m Q Q' w h hw k => ?_
  unfold aAll at hw
  split at hw
  · obtain ⟨ns, e, hq⟩ := hw
    subst e
    cases h with
    | lst h1 h2 =>
      have e := rpAll_boolsV h2
      subst e
      exact ⟨_, ns, rfl, SqL.of (era_of h1).1, k _ _ (fun _ => .bl _) hq⟩
  · exact hw.elim
theorem te_all (hc : X.calm = true) (h : TrE X e u) (hg : Gl X "all") (hm : X.mg "all" = none) (hst : starEach [e] X.env = (false, eval e X.env) :: starEach [] X.env := by rfl) : TrE X (.Call (.Name "all" p) [e] [] pos) (w1 aAll u) :=
  te_c1 (fun q => pe_callB (cr_all hc) hg hm (by decide +kernel) q (by decide) (by decide) hst rfl) ca_all h hst
theorem ca_list : CallA X (fun xs H Q => ∃ p ys, xs = [.ref p] ∧ (SqL X.K H p ys ∨ SqT X.K H p ys) ∧ ∀ l, H l = none → Q (.ref l) (upd H l (.lst ys))) aList := by
  intro B Fs Hs F H x d m f Q Q' ex r1 n1 hw k
  unfold aList at hw
  split at hw
  · rename_i ds
    by_cases c1 : okL ds m = true
    · obtain ⟨a, vs, e1, h1, ex1, s1, q1⟩ := r1.items c1 ex n1
      refine ⟨a, vs, by rw [e1], .inl (SqL.of h1), fun l nl => ?_⟩
      obtain ⟨y1, y2, y3⟩ := newL ex1 nl q1
      rw [c1] at hw
      exact k _ _ _ _ _ _ y1 y2 y3 hw
    · obtain ⟨a, vs, e1, h1, _, q1⟩ := r1.list ex.wf
      refine ⟨a, vs, by rw [e1], .inl (SqL.of h1), fun l nl => ?_⟩
      obtain ⟨y1, y2, y3⟩ := newLb ex nl q1
      rw [show jn (okL ds m) true = .b by simp [jn, c1]] at hw
      exact k _ _ _ _ _ _ y1 y2 y3 hw
  · rename_i ds
    obtain ⟨a, vs, e1, h1, q1, e3⟩ := r1.tupleK hw.1 ex.wf
    refine ⟨a, vs, by rw [e1], .inr h1, fun l nl => ?_⟩
    obtain ⟨y1, y2, y3⟩ := newL ex nl q1
    exact k _ _ _ _ _ _ y1 y2 y3 hw.2
  · exact hw.elim
theorem te_list (h : TrE X e u) (hg : Gl X "list") (hm : X.mg "list" = none) (hst : starEach [e] X.env = (false, eval e X.env) :: starEach [] X.env := by rfl) : TrE X (.Call (.Name "list" p) [e] [] pos) (w1 aList u) :=
  te_c1 (fun q => pe_callTy call_list_of hg hm (by decide +kernel) q (by decide) (by decide) hst rfl) ca_list h hst
theorem ca_tuple : CallA X (fun xs H Q => ∃ p ys, xs = [.ref p] ∧ ((SqL X.K H p ys ∧ ∀ l, H l = none → Q (.ref l) (upd H l (.tup ys))) ∨ (SqT X.K H p ys ∧ Q (.ref p) H))) aTuple := by
  intro B Fs Hs F H x d m f Q Q' ex r1 n1 hw k
  unfold aTuple at hw
  split at hw
  · rename_i ds
    obtain ⟨a, vs, e1, h1, ex1, s1, q1⟩ := r1.items hw.1 ex n1
    refine ⟨a, vs, by rw [e1], .inl ⟨SqL.of h1, fun l nl => ?_⟩⟩
    obtain ⟨y1, y2⟩ := newT ex1 nl q1
    exact k _ _ _ _ _ [] y1 y2 (fun _ h => by simp at h) hw.2
  · rename_i ds
    obtain ⟨c1, hq⟩ := hw
    cases m with
    | b => exact absurd c1 (by simp [isO])
    | o m =>
      obtain ⟨a, vs, e1, h1, q1, _⟩ := r1.tuple0
      have t1 := (own_notlist r1.2.2 rfl).1
      subst e1
      exact ⟨a, vs, rfl, .inr ⟨rp_mono.seqT ex.wf.fh h1, k _ _ _ _ _ [] ex (.of t1) (fun _ h => by simp at h) hq⟩⟩
  · exact hw.elim
theorem te_tuplef (h : TrE X e u) (hg : Gl X "tuple") (hm : X.mg "tuple" = none) (hst : starEach [e] X.env = (false, eval e X.env) :: starEach [] X.env := by rfl) : TrE X (.Call (.Name "tuple" p) [e] [] pos) (w1 aTuple u) :=
  te_c1 (fun q => pe_callTy call_tuple_of hg hm (by decide +kernel) q (by decide) (by decide) hst rfl) ca_tuple h hst
def aMax2 : Op2 := aI0 fun i j => .int (if j > i then j else i)
def aMin2 : Op2 := aI0 fun i j => .int (if j < i then j else i)
theorem te_c2 {e2 E : Expr} {v : WE} {r : List V → Hp → VK → Prop} {a : Op2} (hpe : ∀ {t : TA}, PA X [e, e2] t → PE X E (tCB r t)) (ha : OpA X (fun x y H Q => r [x, y] H Q) a) (h1 : TrE X e u) (h2 : TrE X e2 v)
    (hst : starEach [e, e2] X.env = (false, eval e X.env) :: starEach [e2] X.env) (hst2 : starEach [e2] X.env = (false, eval e2 X.env) :: starEach [] X.env) : TrE X E (w2 a u v) := by
  obtain ⟨t1, p1, s1⟩ := h1.run
  obtain ⟨t2, p2, s2⟩ := h2.run
  exact ⟨_, hpe (pa_cons p1 (pa_cons p2 pa_nil hst2) hst), fun B F0 H0 F H σ st Q Q' R hw k => run2 (Q' := fun x y H2 => r [x, y] H2 Q') s1 s2 R hw fun x y F2 H2 d1 m1 d2 m2 f1 f2 ex r1 r2 n1 n2 dj hw2 => ha B F H F2 H2 x y d1 d2 m1 m2 f1 f2 Q Q' ex r1 r2 n1 n2 dj hw2 k⟩
theorem oa_max2 : OpA X (fun x y H Q => ∃ i j, [x, y] = [V.int i, V.int j] ∧ Q (V.int (if j > i then j else i)) H) aMax2 := by
  refine opa_read fun H x y d1 d2 m1 m2 Q Q' h1 h2 hw k => ?_
  unfold aMax2 aI0 at hw
  split at hw
  · cases h1; cases h2; exact ⟨_, _, rfl, k _ _ (fun _ => .int _) hw⟩
  · exact hw.elim
theorem oa_min2 : OpA X (fun x y H Q => ∃ i j, [x, y] = [V.int i, V.int j] ∧ Q (V.int (if j < i then j else i)) H) aMin2 := by
  refine opa_read fun H x y d1 d2 m1 m2 Q Q' h1 h2 hw k => ?_
  unfold aMin2 aI0 at hw
  split at hw
  · cases h1; cases h2; exact ⟨_, _, rfl, k _ _ (fun _ => .int _) hw⟩
  · exact hw.elim
theorem te_max2 {e2 : Expr} {v : WE} (hc : X.calm = true) (h : TrE X e u) (h2 : TrE X e2 v) (hg : Gl X "max") (hm : X.mg "max" = none) (hst : starEach [e, e2] X.env = (false, eval e X.env) :: starEach [e2] X.env := by rfl) (hst2 : starEach [e2] X.env = (false, eval e2 X.env) :: starEach [] X.env := by rfl)
    (hpl : (backTo pos (starEach [e2] X.env)).any (·.1) = false := by rfl) : TrE X (.Call (.Name "max" p) [e, e2] [] pos) (w2 aMax2 u v) :=
  te_c2 (fun q => pe_callB (call_max2 hc) hg hm (by decide +kernel) q (by decide) (by decide) hst hpl) oa_max2 h h2 hst hst2
theorem te_min2 {e2 : Expr} {v : WE} (hc : X.calm = true) (h : TrE X e u) (h2 : TrE X e2 v) (hg : Gl X "min") (hm : X.mg "min" = none) (hst : starEach [e, e2] X.env = (false, eval e X.env) :: starEach [e2] X.env := by rfl) (hst2 : starEach [e2] X.env = (false, eval e2 X.env) :: starEach [] X.env := by rfl)
    (hpl : (backTo pos (starEach [e2] X.env)).any (·.1) = false := by rfl) : TrE X (.Call (.Name "min" p) [e, e2] [] pos) (w2 aMin2 u v) :=
  te_c2 (fun q => pe_callB (call_min2 hc) hg hm (by decide +kernel) q (by decide) (by decide) hst hpl) oa_min2 h h2 hst hst2
def tyD : PyData → String
  | .none => "NoneType"
  | .bool _ => "bool"
  | .int _ => "int"
  | .str _ => "str"
  | .list _ => "list"
  | .tuple _ => "tuple"
  | .dict _ => "dict"
def isTy (t n : String) : Bool := t == n || (t == "bool" && n == "int")
def isT (n : String) (d : PyData) : Bool := isTy (tyD d) n
theorem kit_tab : ∀ t ∈ ["NoneType", "bool", "int", "str", "list", "tuple", "dict"], ∀ n ∈ ["bool", "int", "str", "list", "tuple"], kitB t n = some (isTy t n) := by decide +kernel
theorem tyD_mem (d : PyData) : tyD d ∈ ["NoneType", "bool", "int", "str", "list", "tuple", "dict"] := by cases d <;> simp [tyD]
theorem kit_d {K : PySem.W.Frag} {n : String} (hn : n ∈ ["bool", "int", "str", "list", "tuple"]) (d : PyData) : PySem.W.kitOne K (.type (tyD d)) (.type n) = some (isT n d) := kit_ty (kit_tab _ (tyD_mem d) n hn)
theorem tyX_of {K : PySem.W.Frag} {H : Hp} {x : V} {d : PyData} (h : Rp K H x d) : TyX K H x (.type (tyD d)) := by
  cases h with
  | non => exact .base .non
  | bl b => exact .base (.bl b)
  | int i => exact .base (.int i)
  | str z => exact .base (.str z)
  | lst h1 _ => exact .base (.lst h1)
  | tup h1 _ =>
    rcases h1 with (h1 | ⟨o, h1⟩) | ⟨o, its, n, hk, hc, _⟩
    · exact .base (.tup h1)
    · exact .fTuple h1
    · exact .kTuple hk hc
  | dct h1 h2 _ =>
    rcases h2 with ⟨kv, rfl, _, _⟩ | ⟨kv, rfl, _, _⟩
    · exact .base (.dK h1)
    · exact .base (.dT h1)
def wIsi (n : String) (u : WE) : WE := fun st Q => u st fun d _ => Q (.bool (isT n d)) (.o 0)
theorem te_isi {n : String} {x : Str} {p2 : Pos} (h : TrE X e u) (hgn : Gl X x) (hmn : X.mg x = none) (hv : bootBuiltins x = some (.type n)) (hg : Gl X "isinstance") (hm : X.mg "isinstance" = none)
    (hk : n ∈ ["bool", "int", "str", "list", "tuple"] := by decide) (hn : x ≠ "__name__" := by decide) (hd : (x == ("__debug__" : Str)) = false := by decide)
    (hst : starEach [e, .Name x p2] X.env = (false, eval e X.env) :: starEach [.Name x p2] X.env := by rfl) (hst2 : starEach [.Name x p2] X.env = (false, eval (.Name x p2) X.env) :: starEach [] X.env := by rfl) (hpl : (backTo pos (starEach [.Name x p2] X.env)).any (·.1) = false := by rfl) :
    TrE X (.Call (.Name "isinstance" p) [e, .Name x p2] [] pos) (wIsi n u) := by
  obtain ⟨t, pp, s⟩ := h.run
  refine ⟨_, pe_callB call_isi hg hm (by decide +kernel) (pa_cons pp (pa_cons (pe_bltn (v := .ty n) hgn hmn hv rfl hn hd) pa_nil hst2) hst) (by decide) (by decide) hst hpl, fun B F0 H0 F H σ st Q Q' R hw k => s B F0 H0 F H σ st _ (fun x H1 => rIsi X.K [x, .ty n] H1 Q') R hw fun x F1 H1 d md f x1 r1 n1 hq => ?_⟩
  exact ⟨x, .ty n, _, _, _, rfl, .ty n, tyX_of (r1.readH x1.wf), kit_d hk d, k _ F1 H1 _ (.o 0) [] x1 (.of (.bl _)) (fun _ h => by simp at h) hq⟩
def aRepr : Fn1 := fun d _ Q => match d with
  | .int i => i.natAbs < 2 ^ 1920 ∧ Q (.str (toString i)) (.o 0)
  | .str z => (reprText z).length ≤ sizeLine ∧ Q (.str (reprText z)) (.o 0)
  | _ => False
def rRepr : List V → Hp → VK → Prop := fun xs H Q => (∃ i, xs = [.int i] ∧ i.natAbs.log2 < 1920 ∧ Q (.str (toString i)) H) ∨ ∃ z, xs = [.str z] ∧ (reprText z).length ≤ sizeLine ∧ Q (.str (reprText z)) H
theorem call_repr2 : CallR X (.builtin "repr") rRepr := by
  intro pins s σ H xs us Q I r h
  rcases h with h | ⟨z, rfl, hz, q⟩
  · exact SkE.call_repr_int pins s σ H xs us Q I r h
  · obtain ⟨u, rfl, t, rfl⟩ := vals1 r
    exact PySem.P.repr_of_str ⟨.str _, H, I.tok _, ⟨_, rfl⟩, q⟩ hz
theorem ca_repr : CallA X rRepr aRepr := by
  refine ca_read fun B F H x d m Q Q' w h hw k => ?_
  unfold aRepr at hw
  split at hw
  · rename_i i
    cases h
    refine .inl ⟨_, rfl, ?_, k _ _ (fun _ => .str _) hw.2⟩
    by_cases z : i.natAbs = 0
    · rw [z]; decide
    · exact (Nat.log2_lt z).mpr hw.1
  · cases h
    exact .inr ⟨_, rfl, hw.1, k _ _ (fun _ => .str _) hw.2⟩
  · exact hw.elim
theorem te_repr (h : TrE X e u) (hg : Gl X "repr") (hm : X.mg "repr" = none) (hst : starEach [e] X.env = (false, eval e X.env) :: starEach [] X.env := by rfl) : TrE X (.Call (.Name "repr" p) [e] [] pos) (w1 aRepr u) :=
  te_c1 (fun q => pe_callB call_repr2 hg hm (by decide +kernel) q (by decide) (by decide) hst rfl) ca_repr h hst
def dBl (k : Bool) : PyData → Bool
  | .bool c => c == k
  | _ => false
def rIsBl (k : Bool) : R2 := fun x y H Q => y = .bl k ∧ Q (.bl (decide (x = .bl k))) H
def rNotBl (k : Bool) : R2 := fun x y H Q => y = .bl k ∧ Q (.bl (!decide (x = .bl k))) H
theorem relBl {x : V} {v : Value} {k : Bool} (r : RelV x v) : (v == Value.bool k) = decide (x = .bl k) := by
  cases x with
  | bl b => cases r; cases b <;> cases k <;> rfl
  | non => cases r; rfl
  | int _ => obtain ⟨t, rfl⟩ := r; rfl
  | str _ => obtain ⟨t, rfl⟩ := r; rfl
  | byt _ => obtain ⟨t, rfl⟩ := r; rfl
  | flt _ => obtain ⟨t, rfl⟩ := r; rfl
  | ref _ => cases r; rfl
  | ty _ => cases r; rfl
theorem is_bl {M : Model} {A : Around} {E : Value → Shared → Prop} {s : Shared} {Q : Value → Shared → Prop} {x : V} {v : Value} {k : Bool} (r : RelV x v) (h : Q (.bool (v == .bool k)) s) : wpAny M A (compareOp .Is v (.bool k)) Q E s := by
  cases x with
  | non => cases r; exact wpAny_pure h
  | bl _ => cases r; exact wpAny_pure h
  | int _ => obtain ⟨t, rfl⟩ := r; exact wpAny_pure h
  | str _ => obtain ⟨t, rfl⟩ := r; exact wpAny_pure h
  | byt _ => obtain ⟨t, rfl⟩ := r; exact wpAny_pure h
  | flt _ => obtain ⟨t, rfl⟩ := r; exact wpAny_pure h
  | ref _ => cases r; exact wpAny_pure h
  | ty _ => cases r; exact wpAny_pure h
theorem isnot_bl {M : Model} {A : Around} {E : Value → Shared → Prop} {s : Shared} {Q : Value → Shared → Prop} {x : V} {v : Value} {k : Bool} (r : RelV x v) (h : Q (.bool (!(v == .bool k))) s) : wpAny M A (compareOp .IsNot v (.bool k)) Q E s := by
  cases x with
  | non => cases r; exact wpAny_pure h
  | bl _ => cases r; exact wpAny_pure h
  | int _ => obtain ⟨t, rfl⟩ := r; exact wpAny_pure h
  | str _ => obtain ⟨t, rfl⟩ := r; exact wpAny_pure h
  | byt _ => obtain ⟨t, rfl⟩ := r; exact wpAny_pure h
  | flt _ => obtain ⟨t, rfl⟩ := r; exact wpAny_pure h
  | ref _ => cases r; exact wpAny_pure h
  | ty _ => cases r; exact wpAny_pure h
theorem op_isBl {k : Bool} : OpR X (compareOp .Is) (rIsBl k) := by
  intro pins s σ H x y v u Q I rx ry h
  obtain ⟨rfl, q⟩ := h
  cases (show u = Value.bool k from ry)
  exact is_bl rx ⟨.bl _, H, I, by rw [relBl rx]; rfl, q⟩
theorem op_notBl {k : Bool} : OpR X (compareOp .IsNot) (rNotBl k) := by
  intro pins s σ H x y v u Q I rx ry h
  obtain ⟨rfl, q⟩ := h
  cases (show u = Value.bool k from ry)
  exact isnot_bl rx ⟨.bl _, H, I, by rw [relBl rx]; rfl, q⟩
def aIsBl (k : Bool) : Op2 := fun d1 _ d2 _ Q => d2 = .bool k ∧ Q (.bool (dBl k d1)) (.o 0)
def aNotBl (k : Bool) : Op2 := fun d1 _ d2 _ Q => d2 = .bool k ∧ Q (.bool (!dBl k d1)) (.o 0)
theorem bl_iff {K : PySem.W.Frag} {H : Hp} {x : V} {d : PyData} {k : Bool} (h : Rp K H x d) : decide (x = V.bl k) = dBl k d := by
  cases h with
  | bl b => cases b <;> cases k <;> rfl
  | non => exact decide_eq_false fun z => nomatch z
  | int _ => exact decide_eq_false fun z => nomatch z
  | str _ => exact decide_eq_false fun z => nomatch z
  | lst _ _ => exact decide_eq_false fun z => nomatch z
  | tup _ _ => exact decide_eq_false fun z => nomatch z
  | dct _ _ _ => exact decide_eq_false fun z => nomatch z
theorem opa_isBl {k : Bool} : OpA X (rIsBl k) (aIsBl k) := by
  refine opa_read fun H x y d1 d2 m1 m2 Q Q' h1 h2 hw k' => ?_
  obtain ⟨rfl, hq⟩ := hw
  cases h2
  exact ⟨rfl, k' _ _ (fun _ => by rw [bl_iff h1]; exact .bl _) hq⟩
theorem opa_notBl {k : Bool} : OpA X (rNotBl k) (aNotBl k) := by
  refine opa_read fun H x y d1 d2 m1 m2 Q Q' h1 h2 hw k' => ?_
  obtain ⟨rfl, hq⟩ := hw
  cases h2
  exact ⟨rfl, k' _ _ (fun _ => by rw [bl_iff h1]; exact .bl _) hq⟩
theorem te_isBl {k : Bool} {j p2} (h : TrE X e u) : TrE X (.Compare e [.Is] [.Constant (.bool k) j p2] pos) (w2 (aIsBl k) u (wC (.bool k))) := te_cmp op_isBl opa_isBl h te_bl
theorem tt_isBl {k : Bool} {j p2} (h : TrE X e u) : TrT X (.Compare e [.Is] [.Constant (.bool k) j p2] pos) (wTst (w2 (aIsBl k) u (wC (.bool k)))) := tt_cmp op_isBl opa_isBl h te_bl
theorem te_notBl {k : Bool} {j p2} (h : TrE X e u) : TrE X (.Compare e [.IsNot] [.Constant (.bool k) j p2] pos) (w2 (aNotBl k) u (wC (.bool k))) := te_cmp op_notBl opa_notBl h te_bl
theorem tt_notBl {k : Bool} {j p2} (h : TrE X e u) : TrT X (.Compare e [.IsNot] [.Constant (.bool k) j p2] pos) (wTst (w2 (aNotBl k) u (wC (.bool k)))) := tt_cmp op_notBl opa_notBl h te_bl
end
end AL

namespace AL
open PySem PySem.Spec PyProof.Rows L2

theorem hu65 {k : Nat} {A : Around} (r : Room k A) : A.units + 65 < cLine := by have := r.un; omega
theorem hu64 {k : Nat} {A : Around} (r : Room k A) : A.units + 64 < cLine := r.units
def wLenS (i : Nat) : WE := fun st Q => match slot st i with
  | .scr ns => ns.length ≤ sizeLine ∧ Q (.int ns.length) (.o 0)
  | _ => False
def wAtS (i : Nat) (u : WE) : WE := fun st Q => match slot st i with
  | .scr ns => u st fun d _ => match d with
    | .int k => match atI ns k with
      | some n => Q (.int n) (.o 0)
      | none => False
    | _ => False
  | _ => False
section
variable {X : Cx} {e : Expr} {u : WE} {p pos : Pos}
theorem te_lenS (i : Nat) {x : Str} {p2 : Pos} (hg : Gl X "len") (hm : X.mg "len" = none) (hN : X.N[i]? = some x := by rfl) (hv : Vis X.env.scope x := by first | exact Or.inl rfl | exact Or.inr (Or.inl rfl) | exact Or.inr (Or.inr rfl)) (hd : (x == ("__debug__" : Str)) = false := by decide)
    (hcd : (x == ("__classdict__" : Str)) = false := by decide) (hst : starEach [.Name x p2] X.env = (false, eval (.Name x p2) X.env) :: starEach [] X.env := by rfl) : TrE X (.Call (.Name "len" p) [.Name x p2] [] pos) (wLenS i) := by
  refine ⟨_, pe_callB call_len_seq hg hm PySem.boot_len (pa_cons (pe_var hN hv hd hcd) pa_nil hst) (by decide) (by decide) hst rfl, fun B F0 H0 F H σ st Q Q' R hw k => ?_⟩
  unfold wLenS at hw
  split at hw
  · rename_i ns hs
    obtain ⟨a, h1, h2⟩ := R.scr i ns hs
    exact ⟨_, h1, a, _, rfl, .inl (R.wf.fh.seq h2), k _ F H (.int ns.length) (.o 0) [] (.refl R.wf) (.of (by rw [List.length_map]; exact .int _)) (fun _ h => by simp at h) hw.2⟩
  · exact hw.elim
theorem atI_map {α β : Type} (f : α → β) {xs : List α} {k : Int} {n : α} (h : atI xs k = some n) : atI (xs.map f) k = some (f n) := by
  unfold atI at h ⊢
  rw [List.length_map]
  cases q : ixN xs.length k with
  | none => rw [q] at h; cases h
  | some j =>
    rw [q] at h
    show (xs.map f)[j]? = some (f n)
    rw [List.getElem?_map, show xs[j]? = some n from h]
    rfl
theorem te_atS (i : Nat) {x : Str} {p2 : Pos} (h : TrE X e u) (hN : X.N[i]? = some x := by rfl) (hv : Vis X.env.scope x := by first | exact Or.inl rfl | exact Or.inr (Or.inl rfl) | exact Or.inr (Or.inr rfl)) (hd : (x == ("__debug__" : Str)) = false := by decide)
    (hcd : (x == ("__classdict__" : Str)) = false := by decide) (hs : PlainIx e := by exact fun _ _ => rfl) : TrE X (.Subscript (.Name x p2) e pos) (wAtS i u) := by
  obtain ⟨t, pp, sd⟩ := h.run
  refine ⟨_, pe_ix ix_list (pe_var hN hv hd hcd) pp hs, fun B F0 H0 F H σ st Q Q' R hw k => ?_⟩
  unfold wAtS at hw
  split at hw
  · rename_i ns hsl
    obtain ⟨a, h1, h2⟩ := R.scr i ns hsl
    refine ⟨_, h1, sd B F0 H0 F H σ st _ (fun y H2 => rIxL X.K (.ref a) y H2 Q') R hw fun y F1 H1 d md f x1 r1 n1 hq => ?_⟩
    split at hq
    · split at hq
      · rename_i n hn
        have hz := r1.read x1.wf
        cases hz
        exact ⟨a, _, _, .int n, rfl, rfl, x1.wf.fh.seq (x1.ff.seq h2), atI_map V.int hn, k _ F1 H1 _ (.o 0) [] x1 (.of (.int _)) (fun _ h => by simp at h) hq⟩
      · exact hq.elim
    · exact hq.elim
  · exact hw.elim
end
def wChain (a b : Op2) (u v w : WE) : WE := fun st Q => u st fun d1 m1 => v st fun d2 m2 => a d1 m1 d2 m2 fun r _ => match r with
  | .bool true => w st fun d3 m3 => b d2 (rdm m2) d3 m3 Q
  | .bool false => Q (.bool false) (.o 0)
  | _ => False
section
variable {X : Cx} {e1 e2 e3 : Expr} {u v w : WE} {pos : Pos} {op op' : CmpOp} {r r' : R2} {a b : Op2}
def FlatOp (a : Op2) : Prop := ∀ d1 m1 d2 m2 Q, a d1 m1 d2 m2 Q → sc d1 = true ∧ sc d2 = true
end

def aspDraw : ASp := fun as Q => ∃ n : Int, as = [.box, .val (.int n) (.o 0)] ∧ 0 < n ∧ ∀ r : Int, 0 ≤ r → r < n → Q (.int r) (.o 0)
theorem Ext.draw {K : PySem.W.Frag} {B : Option Bx} {F H : Hp} {x : Bx} {k : Int} (w : Wf K B F H) (e : B = some x) (k0 : 0 ≤ k) : Ext K B F H F (upd H x.b (.lst [.ref x.dig, .int k])) := by
  have fb : F x.b = none := w.bn x e
  refine ⟨fun a o n h => ?_, Same.refl _, fun _ _ h => .inl h, ⟨fun a o h => ?_, w.bn, fun y q => ?_, w.bd⟩⟩
  · rw [upd_ne (fun z => n x e z.symm)]; exact h
  · rw [upd_ne (fun z => by rw [z, fb] at h; cases h)]; exact w.fh _ _ h
  · rw [e] at q
    cases q
    exact ⟨k, k0, upd_same⟩
section
variable {P : Program} {w : World} {K : PySem.W.Frag} {mg : Str → Option Value} {base : Heap}
theorem draw_ok {qual : Str} {st : Stmt} {f : Addr} {fd : FuncData} {N : List Str} (F : Fun K "_law_draw" qual st f fd) (S : FnScope N ["box", "many"] (defScope st))
    (hb : ∀ (cdv : Value) (A : Around) (outer : List Env) (s : Shared) (H : Hp) (E : XK), Room 0 (A.deeper (envOfC qual (defScope st) s.heap.objs.size f cdv)) →
      ∃ t, PSs (cxOf CX0 P w K mg base N qual (defScope st) f cdv A outer s H E).nox (defBody st) t ∧ ∀ (b A' : Addr) (xs : List Int) (k n : Int) (σ : L2.St) (H : Hp) (D : Ends), σ[0]? = some (some (.ref b)) → σ[1]? = some (some (.int n)) → 0 ≤ k → 0 < n → b ≠ A' →
        H b = some (.lst [.ref A', .int k]) → SqL K H A' (xs.map V.int) → (∀ r, 0 ≤ r → r < n → D.rt (.int r) (upd H b (.lst [.ref A', .int (k + 1)]))) → t D σ H) :
    FnOk P w K mg base CX0 1 f fd ["box", "many"] (spOf K 2 aspDraw) := by
  refine F.ok S (fun vs H Q E h => h.1) fun cdv A outer s H vs Q E hr h => ?_
  obtain ⟨hv, B, F1, as, Qa, wf, p, ⟨n, e, n0, ha⟩, hq⟩ := h
  obtain ⟨t, pt, hw⟩ := hb cdv A outer s H E hr
  subst e
  cases p with
  | cons h1 p =>
    cases p with
    | cons h2 p =>
      cases p
      obtain ⟨x, ex, e1⟩ := h1
      subst e1
      have h2' : Rp K F1 _ (.int n) := h2
      cases h2'
      obtain ⟨k, k0, hk⟩ := wf.bk x ex
      have hd := wf.bd x ex
      refine ⟨t, pt, hw x.b x.dig x.ds k n _ H _ (start_get (vs := [V.ref x.b, V.int n]) rfl) (start_get (vs := [V.ref x.b, V.int n]) rfl) k0 n0 (fun z => ?_) hk (SqL.of (wf.fh _ _ hd)) fun r r0 rn => ?_⟩
      · rw [← z, wf.bn x ex] at hd; cases hd
      · exact hq _ F1 _ (.int r) (.o 0) [] (.draw wf ex (by omega)) (.of (.int r)) (fun _ h => by simp at h) (ha r r0 rn)
def spLaw (K : PySem.W.Frag) : Sp := fun vs H Q _ => ∃ (a : Addr) (ns : List Int), vs = [.ref a] ∧ Only H ∧ SqL K H a (ns.map V.int) ∧ ns.length ≤ 63 ∧ ∀ H', Q (.bl true) H'
def aspDigits : ASp := fun as Q => ∃ (ns : List Int) (a b : Int), as = [.scr ns, .val (.int a) (.o 0), .val (.int b) (.o 0)] ∧ ns.length ≤ 63 ∧ (0 ≤ a ∧ a ≤ 1000) ∧ 0 ≤ b ∧ b ≤ 1000 ∧ ∀ ds : List Int, Q (.list (ds.map .int)) (.o 1)
def scrF (H : Hp) (a : Addr) : Hp := fun b => if b = a then H b else none
theorem law_ok {qual : Str} {st : Stmt} {f f2 : Addr} {fd fd2 : FuncData} {N : List Str} {k : Nat} {x1 x2 x3 : Int} {j1 j2 j3 : Nat} {p1 p2 p3 p4 p5 p6 p7 p8 p9 : Pos} {rest : List Stmt} (F : Fun K "law" qual st f fd) (S : FnScope N ["script"] (defScope st)) (hN : N.take 2 = (["script", "box"] : List Str))
    (hbody : defBody st = .Assign [.Name "box" p1] (.List [.Call (.Name "_law_digits" p2) [.Name "script" p3, .Constant (.int x1) j1 p4, .Constant (.int x2) j2 p5] [] p6, .Constant (.int 0) j3 p7] p8) p9 :: rest)
    (G : FnOk P w K mg base CX0 k f2 fd2 ["script", "first", "last"] (spOf K 3 aspDigits)) (hg : mg "_law_digits" = some (.ref f2)) (hk : PySem.W.keepIn K (.ref f2) = true) (hbd : L2.Binds K fd2 ["script", "first", "last"] []) (hx : (0 ≤ x1 ∧ x1 ≤ 1000) ∧ 0 ≤ x2 ∧ x2 ≤ 1000)
    (hs : (defScope st).names.lookup ("script" : Str) = some NameKind.local ∨ (defScope st).names.lookup ("script" : Str) = some NameKind.cell) (hs2 : (defScope st).names.lookup ("box" : Str) = some NameKind.local ∨ (defScope st).names.lookup ("box" : Str) = some NameKind.cell) (hs3 : (defScope st).names.lookup ("_law_digits" : Str) = some NameKind.globalImplicit)
    (hb : ∀ (cdv : Value) (A : Around) (outer : List Env) (s : Shared) (H : Hp) (E : XK), Room k (A.deeper (envOfC qual (defScope st) s.heap.objs.size f cdv)) →
      (swapsWith (.List [.Call (.Name "_law_digits" p2) [.Name "script" p3, .Constant (.int x1) j1 p4, .Constant (.int x2) j2 p5] [] p6, .Constant (.int 0) j3 p7] p8) (some (.Name "box" p1)) p9.line (envOfC qual (defScope st) s.heap.objs.size f cdv) = pure false) ∧
      ∃ wb, TrB (cxOf CX0 P w K mg base N qual (defScope st) f cdv A outer s H E).nox rest wb ∧ wb { nx := fun _ => False, rt := fun d _ => d = .bool true } (pad N.length [.dead, .box])) :
    FnOk P w K mg base CX0 (k + 1) f fd ["script"] (spLaw K) := by
  refine F.ok S (fun vs H Q E h => by obtain ⟨a, ns, rfl, _⟩ := h; rfl) fun cdv A outer s H vs Q E hr h => ?_
  obtain ⟨a, ns, rfl, on, hS, hl, q⟩ := h
  obtain ⟨hsw, wb, tb, hw⟩ := hb cdv A outer s H E hr
  obtain ⟨t, pt, sd⟩ := tb.run
  have n0 : N[0]? = some ("script" : Str) := by
    have : (N.take 2)[0]? = some ("script" : Str) := by rw [hN]; rfl
    rwa [List.getElem?_take_of_lt (by omega)] at this
  have n1 : N[1]? = some ("box" : Str) := by
    have : (N.take 2)[1]? = some ("box" : Str) := by rw [hN]; rfl
    rwa [List.getElem?_take_of_lt (by omega)] at this
  have nl : 2 ≤ N.length := by
    have := (List.getElem?_eq_some_iff.mp n1).1
    omega
  rw [hbody]
  have hv0 : Vis (defScope st) "script" := hs.imp id .inl
  refine ⟨_, pss_cons (ps_set (i := 1) S.nd n1 hs2 (pe_lst (pa_cons (pe_call G hr hs3 hg hk hbd .nil pass0 (pa_cons (pe_var (i := 0) n0 hv0) (pa_cons pe_int (pa_cons pe_int pa_nil)))) (pa_cons pe_int pa_nil))) hsw (.inl rfl)) pt, ?_⟩
  have hσ : (L2.start N [V.ref a])[0]? = some (some (.ref a)) := start_get rfl
  refine ⟨_, hσ, rfl, none, scrF H a, [.scr ns, .val (.int x1) (.o 0), .val (.int x2) (.o 0)], fun d md => ∃ ds : List Int, d = .list (ds.map .int) ∧ md = .o 1, ?_, ?_, ⟨ns, x1, x2, rfl, hl, hx.1, hx.2.1, hx.2.2, fun ds => ⟨ds, rfl, rfl⟩⟩, ?_⟩
  · refine ⟨fun b o h => ?_, fun x e => (nomatch e), fun x e => (nomatch e), fun x e => (nomatch e)⟩
    unfold scrF at h
    split at h
    · exact h
    · cases h
  · refine .cons ⟨a, rfl, ?_⟩ (.cons (.int x1) (.cons (.int x2) .nil))
    rcases hS with (h | ⟨o, h⟩) | h
    · exact .inl (.inl (by unfold scrF; rw [if_pos rfl]; exact h))
    · exact .inl (.inr ⟨o, by unfold scrF; rw [if_pos rfl]; exact h⟩)
    · exact .inr h
  · intro v F1 H1 d md fp x r fr hd
    obtain ⟨ds, rfl, rfl⟩ := hd
    obtain ⟨nd, nbf, A', xs, fs, e1, e2, e3, e4, e5⟩ := r
    subst e1
    have exs : xs = ds.map V.int := by
      have h := fp3_rp0 e4
      exact rpAll_intsV h
    subst exs
    refine ⟨by show 2 ≤ sizeLine; decide, fun p np => ?_⟩
    have hAp : A' ≠ p := ne_of_none e2 np
    -- the box is p
    have w2 : Wf K (some ⟨p, A', ds⟩) (fun b => if b = A' then some (.lst (ds.map V.int)) else none) (upd H1 p (.lst [.ref A', .int 0])) := by
      refine ⟨fun b o h => ?_, fun x e => ?_, fun x e => ?_, fun x e => ?_⟩
      · split at h
        · rename_i z
          cases h
          rw [z, upd_ne hAp]; exact e2
        · cases h
      · cases e
        show (if p = A' then _ else _) = none
        rw [if_neg (Ne.symm hAp)]
      · cases e
        exact ⟨0, Int.le_refl _, upd_same⟩
      · cases e
        show (if A' = A' then _ else _) = _
        rw [if_pos rfl]
    refine sd (some ⟨p, A', ds⟩) _ _ _ _ _ (pad N.length [.dead, .box]) _ _ ⟨.refl w2, ?_, ⟨fun _ => [], fun i d md h => ?_, fun _ _ => rfl, fun i j a h => by simp at h, fun i a h => by simp at h⟩, fun i h => ?_, fun i ns h => ?_⟩ (fun i d h => ?_) hw ⟨fun _ _ _ _ _ _ _ h => h.elim, fun _ _ _ _ _ _ _ h => h.elim, fun _ _ _ _ _ _ _ h => h.elim, fun v F' H' d md fp x r n h => ?_⟩
    · simp only [pad, L2.start, List.length_set, List.length_append, List.length_map, List.length_replicate, List.length_cons, List.length_nil]
      omega
    · have h1 := slot_pad h (by intro z; cases z)
      match i, h1 with
      | 0, h1 => simp at h1
      | 1, h1 => simp at h1
      | i + 2, h1 => simp at h1
    · have h1 := slot_pad h (by intro z; cases z)
      match i, h1 with
      | 0, h1 => simp at h1
      | 1, h1 => exact ⟨_, rfl, by rw [List.getElem?_set_self]; simp only [L2.start, List.length_append, List.length_map, List.length_replicate, List.length_cons, List.length_nil]; omega⟩
      | i + 2, h1 => simp at h1
    · have h1 := slot_pad h (by intro z; cases z)
      match i, h1 with
      | 0, h1 => simp at h1
      | 1, h1 => simp at h1
      | i + 2, h1 => simp at h1
    · have h1 := slot_pad h (by intro z; cases z)
      match i, h1 with
      | 0, h1 => simp at h1
      | 1, h1 => simp at h1
      | i + 2, h1 => simp at h1
    · subst h
      have hz := r.read x.wf
      cases hz
      exact q H'
end
end AL

namespace AL
open PySem PySem.Spec PyProof.Rows L2

structure Dn (P : Program) (w : World) (K : PySem.W.Frag) (mg : Str → Option Value) (base : Heap) (k : Nat) (x : Str) (n : Nat) (asp : ASp) : Prop where
  ex : ∃ f fd ps, FnOk P w K mg base CX0 k f fd ps (spOf K n asp) ∧ mg x = some (.ref f) ∧ PySem.W.keepIn K (.ref f) = true ∧ L2.Binds K fd ps []
theorem Dn.up {P : Program} {w : World} {K : PySem.W.Frag} {mg : Str → Option Value} {base : Heap} {k j : Nat} {x : Str} {n : Nat} {asp : ASp} (D : Dn P w K mg base k x n asp) (h : k ≤ j) : Dn P w K mg base j x n asp := by
  obtain ⟨f, fd, ps, G, a, b, c⟩ := D.ex
  exact ⟨f, fd, ps, G.mono h, a, b, c⟩
structure Df (K : PySem.W.Frag) (mg : Str → Option Value) (x qual : Str) (st : Stmt) (ps : List Str) : Prop where
  ex : ∃ f fd, Fun K x qual st f fd ∧ mg x = some (.ref f) ∧ L2.Binds K fd ps []
theorem Df.dn {P : Program} {w : World} {K : PySem.W.Frag} {mg : Str → Option Value} {base : Heap} {x qual : Str} {st : Stmt} {N ps : List Str} {k : Nat} {asp : ASp} (F : Df K mg x qual st ps) (S : FnScope N ps (defScope st)) (hl : ps.length ≤ N.length)
    {wb : WS} (hb : ∀ (f : Addr) (cdv : Value) (A : Around) (outer : List Env) (s : Shared) (H : Hp) (E : XK), Room k (A.deeper (envOfC qual (defScope st) s.heap.objs.size f cdv)) → TrB (cxOf CX0 P w K mg base N qual (defScope st) f cdv A outer s H E).nox (defBody st) wb)
    (hw : ∀ as Q, as.length = ps.length → asp as Q → wb { nx := fun _ => Q .none (.o 0), rt := Q } (pad N.length as)) : Dn P w K mg base (k + 1) x ps.length asp := by
  obtain ⟨f, fd, hF, hm, hB⟩ := F.ex
  exact ⟨f, fd, ps, fn_ok hF S hl fun cdv A outer s H E hr => ⟨wb, hb f cdv A outer s H E hr, hw⟩, hm, hF.kp, hB⟩
theorem Df.never {P : Program} {w : World} {K : PySem.W.Frag} {mg : Str → Option Value} {base : Heap} {x qual : Str} {st : Stmt} {ps : List Str} {k : Nat} (F : Df K mg x qual st ps) : Dn P w K mg base k x ps.length fun _ _ => False := by
  obtain ⟨f, fd, hF, hm, hB⟩ := F.ex
  exact ⟨f, fd, ps, ⟨fun vs H Q E h => h.1, fun A outer s H args us vs Q E hr e0 hb r hs => by obtain ⟨_, _, _, _, _, _, _, h, _⟩ := hs; exact h.elim⟩, hm, hF.kp, hB⟩
structure GlD (K : PySem.W.Frag) (mg : Str → Option Value) (x : Str) (d : PyData) : Prop where
  ex : ∃ v u, mg x = some u ∧ RelV v u ∧ (∀ F, Rp K F v d) ∧ ∀ a o, v = .ref a → K.lookup a = some o → o.dict = none
section
variable {X : Cx} {k n : Nat} {asp : ASp} {x : Str} {p pos : Pos} {e e1 e2 e3 : Expr} {es : List Expr} {wa : WA} {u v w : WE}
theorem te_callD (D : Dn X.prog X.w X.K X.mg X.base k x n asp) (hr : Room k X.A) (hg : Gl X x) (ha : TrA X (e :: es) wa) (hdb : (x == ("__debug__" : Str)) = false := by decide) (he : starEach (e :: es) X.env = (false, eval e X.env) :: starEach es X.env := by rfl)
    (hpl : (backTo pos (starEach es X.env)).any (·.1) = false := by rfl) : TrE X (.Call (.Name x p) (e :: es) [] pos) (wCall n asp wa) := by
  obtain ⟨f, fd, ps, G, hm, hk, hb⟩ := D.ex
  exact te_call G hr hg hm hk hb ha hdb he hpl
theorem te_glD {d : PyData} (hg : Gl X x) (h : GlD X.K X.mg x d) (hd : (x == ("__debug__" : Str)) = false := by decide) : TrE X (.Name x pos) (wC d) := by
  obtain ⟨v, u, hm, r, hr, _⟩ := h.ex
  exact te_gl hg hm r hr hd
def wRevL (u : WE) : WE := fun st Q => u st fun d m => match d with
  | .list ds => Q (.list ds.reverse) (jn (okL ds m) true)
  | _ => False
theorem rpAll_rev {K : PySem.W.Frag} {H : Hp} : ∀ {vs : List V} {ds : List PyData}, RpAll K H vs ds → RpAll K H vs.reverse ds.reverse
  | _, _, .nil => .nil
  | _, _, .cons h t => by rw [List.reverse_cons, List.reverse_cons]; exact rpAll_app (rpAll_rev t) (.cons h .nil)
theorem te_revL {kk : Nat} {p1 p2 p3 : Pos} (h : TrE X e u) : TrE X (.Subscript e (.Slice none none (some (.UnaryOp .USub (.Constant (.int 1) kk p1) p2)) p3) pos) (wRevL u) := by
  obtain ⟨t, pp, s⟩ := h.run
  refine ⟨_, pe_revL pp, fun B F0 H0 F H σ st Q Q' R hw k => s B F0 H0 F H σ st _ _ R hw fun x F1 H1 d md f x1 r1 n1 hq => ?_⟩
  split at hq
  · rename_i ds
    by_cases c1 : okL ds md = true
    · obtain ⟨a, vs, e1, h1, ex1, s1, q1⟩ := r1.items c1 x1 n1
      refine ⟨a, vs, e1, SqL.of h1, fun p np => ?_⟩
      obtain ⟨y1, y2, y3⟩ := newL ex1 np (rpAll_rev q1)
      rw [c1] at hq
      exact k _ _ _ _ _ _ y1 y2 y3 hq
    · obtain ⟨a, vs, e1, h1, _, q1⟩ := r1.list x1.wf
      refine ⟨a, vs, e1, SqL.of h1, fun p np => ?_⟩
      obtain ⟨y1, y2, y3⟩ := newLb x1 np (rpAll_rev q1)
      rw [show jn (okL ds md) true = .b by simp [jn, c1]] at hq
      exact k _ _ _ _ _ _ y1 y2 y3 hq
  · exact hq.elim
def cLt (i j : Int) : Bool := decide (i < j)
def cLe (i j : Int) : Bool := decide (i ≤ j)
def cGt (i j : Int) : Bool := decide (j < i)
def cGe (i j : Int) : Bool := decide (j ≤ i)
def CI (X : Cx) (op : CmpOp) (g : Int → Int → Bool) : Prop := OpR X (compareOp op) (rI0 fun i j => .bl (g i j))
theorem ci_lt : CI X .Lt cLt := op_lt
theorem ci_le : CI X .LtE cLe := op_le
theorem ci_gt : CI X .Gt cGt := op_gt
theorem ci_ge : CI X .GtE cGe := op_ge
def wChn (g g' : Int → Int → Bool) (u v w : WE) : WE := fun st Q => u st fun d1 _ => v st fun d2 _ => match d1, d2 with
  | .int i, .int j => match g i j with
    | true => w st fun d3 _ => match d3 with
      | .int k => Q (.bool (g' j k)) (.o 0)
      | _ => False
    | false => Q (.bool false) (.o 0)
  | _, _ => False
theorem chnS {g g' : Int → Int → Bool} {t1 t2 t3 : TE} (s1 : ∀ B F0 H0 F H σ st Q (Q' : VK), SR X.K B F0 H0 F H σ st → u st Q → (∀ v F' H' d md fp, Ext X.K B F H F' H' → TR X.K B F' H' v d md fp → (∀ a ∈ fp, H a = none) → Q d md → Q' v H') → t1 σ H Q')
    (s2 : ∀ B F0 H0 F H σ st Q (Q' : VK), SR X.K B F0 H0 F H σ st → v st Q → (∀ v F' H' d md fp, Ext X.K B F H F' H' → TR X.K B F' H' v d md fp → (∀ a ∈ fp, H a = none) → Q d md → Q' v H') → t2 σ H Q')
    (s3 : ∀ B F0 H0 F H σ st Q (Q' : VK), SR X.K B F0 H0 F H σ st → w st Q → (∀ v F' H' d md fp, Ext X.K B F H F' H' → TR X.K B F' H' v d md fp → (∀ a ∈ fp, H a = none) → Q d md → Q' v H') → t3 σ H Q') :
    ∀ B F0 H0 F H σ st Q (Q' : VK), SR X.K B F0 H0 F H σ st → wChn g g' u v w st Q → (∀ v F' H' d md fp, Ext X.K B F H F' H' → TR X.K B F' H' v d md fp → (∀ a ∈ fp, H a = none) → Q d md → Q' v H') →
      tChain (rI0 fun i j => .bl (g i j)) (rI0 fun i j => .bl (g' i j)) t1 t2 t3 σ H Q' := by
  intro B F0 H0 F H σ st Q Q' R hw k
  refine run2 s1 s2 R hw fun x y F2 H2 d1 m1 d2 m2 f1 f2 ex r1 r2 n1 n2 dj hq => ?_
  split at hq
  · rename_i i j
    have h1 := r1.read ex.wf
    have h2 := r2.read ex.wf
    cases h1
    cases h2
    refine ⟨i, j, rfl, rfl, g i j, rfl, ?_⟩
    split at hq
    · rename_i hg
      rw [hg]
      refine iteT (s3 B F0 H0 F2 H2 σ st _ _ (R.go ex) hq fun z F3 H3 d3 m3 f3 x3 r3 n3 hq3 => ?_)
      split at hq3
      · have h3 := r3.read x3.wf
        cases h3
        exact ⟨_, _, rfl, rfl, k _ F3 H3 _ (.o 0) [] (ex.trans x3) (.of (.bl _)) (fun _ h => by simp at h) hq3⟩
      · exact hq3.elim
    · rename_i hg
      rw [hg]
      exact iteF (k _ F2 H2 _ (.o 0) [] ex (.of (.bl _)) (fun _ h => by simp at h) hq)
  · exact hq.elim
theorem te_chain {op op' : CmpOp} {g g' : Int → Int → Bool} (c1 : CI X op g) (c2 : CI X op' g') (h1 : TrE X e1 u) (h2 : TrE X e2 v) (h3 : TrE X e3 w) (hm : lastMarks [op, op'] [e2, e3] = false := by with_unfolding_all rfl) :
    TrE X (.Compare e1 [op, op'] [e2, e3] pos) (wChn g g' u v w) := by
  obtain ⟨t1, p1, s1⟩ := h1.run
  obtain ⟨t2, p2, s2⟩ := h2.run
  obtain ⟨t3, p3, s3⟩ := h3.run
  exact ⟨_, pe_chain c1 c2 p1 p2 p3 hm, chnS s1 s2 s3⟩
theorem tt_chain {op op' : CmpOp} {g g' : Int → Int → Bool} (c1 : CI X op g) (c2 : CI X op' g') (h1 : TrE X e1 u) (h2 : TrE X e2 v) (h3 : TrE X e3 w) (hm : lastMarks [op, op'] [e2, e3] = false := by with_unfolding_all rfl) :
    TrT X (.Compare e1 [op, op'] [e2, e3] pos) (wTst (wChn g g' u v w)) := by
  obtain ⟨t1, p1, s1⟩ := h1.run
  obtain ⟨t2, p2, s2⟩ := h2.run
  obtain ⟨t3, p3, s3⟩ := h3.run
  exact ⟨_, pt_chain c1 c2 p1 p2 p3 hm, tstB (chnS s1 s2 s3)⟩
theorem ti_rngDm {tg e3 : Expr} {kk : Nat} {p1 p2 : Pos} (h : TrE X e1 u) (h2 : TrE X e2 v) (hg : Gl X "range") (hm : X.mg "range" = none)
    (hst : starEach [e1, e2, .UnaryOp .USub (.Constant (.int 1) kk p1) p2] X.env = (false, eval e1 X.env) :: starEach [e2, .UnaryOp .USub (.Constant (.int 1) kk p1) p2] X.env := by rfl)
    (hst2 : starEach [e2, .UnaryOp .USub (.Constant (.int 1) kk p1) p2] X.env = (false, eval e2 X.env) :: starEach [.UnaryOp .USub (.Constant (.int 1) kk p1) p2] X.env := by rfl)
    (hst3 : starEach [.UnaryOp .USub (.Constant (.int 1) kk p1) p2] X.env = (false, eval (.UnaryOp .USub (.Constant (.int 1) kk p1) p2) X.env) :: starEach [] X.env := by rfl)
    (hpi : ∀ {ta : TA}, PA X [e1, e2, .UnaryOp .USub (.Constant (.int 1) kk p1) p2] ta → PI X tg (.Call (.Name "range" p) [e1, e2, .UnaryOp .USub (.Constant (.int 1) kk p1) p2] [] pos) (iRng3 ta) := by exact fun q => pi_range3 (by rfl) (by assumption) q) :
    TrI X tg (.Call (.Name "range" p) [e1, e2, .UnaryOp .USub (.Constant (.int 1) kk p1) p2] [] pos) (wRngD u v) := by
  refine ti_rngD h h2 ?_ hg hm hst hst2 hst3 hpi
  obtain ⟨t, pp, s⟩ := (te_neg (pos := p2) (te_int (X := X) (i := 1) (j := kk) (pos := p1))).run
  exact ⟨t, pp, fun B F0 H0 F H σ st Q Q' R hw k => s B F0 H0 F H σ st Q Q' R hw k⟩
abbrev WR := AS → (Int → Int → Prop) → Prop
structure TrR (X : Cx) (e : Expr) (w : WR) : Prop where
  run : ∃ t, PRg X e t ∧ ∀ B F0 H0 F H σ st Q (Q' : Int → Int → Hp → Prop), SR X.K B F0 H0 F H σ st → w st Q → (∀ a b F' H', Ext X.K B F H F' H' → Q a b → Q' a b H') → t σ H Q'
def wR1 (u : WE) : WR := fun st Q => u st fun d _ => match d with
  | .int n => Q 0 n
  | _ => False
def wR2 (u v : WE) : WR := fun st Q => u st fun d _ => v st fun d2 _ => match d, d2 with
  | .int i, .int j => Q i j
  | _, _ => False
theorem tr_1 (h : TrE X e u) (hg : Gl X "range") (hm : X.mg "range" = none) (hst : starEach [e] X.env = (false, eval e X.env) :: starEach [] X.env := by rfl) : TrR X (.Call (.Name "range" p) [e] [] pos) (wR1 u) := by
  obtain ⟨t, pp, s⟩ := h.run
  refine ⟨_, prg_1 hg hm pp hst, fun B F0 H0 F H σ st Q Q' R hw k => s B F0 H0 F H σ st _ _ R hw fun x F1 H1 d md f x1 r1 n1 hq => ?_⟩
  split at hq
  · have h := r1.read x1.wf
    cases h
    exact ⟨_, rfl, k _ _ F1 H1 x1 hq⟩
  · exact hq.elim
theorem tr_2 (h : TrE X e1 u) (h2 : TrE X e2 v) (hg : Gl X "range") (hm : X.mg "range" = none) (hst : starEach [e1, e2] X.env = (false, eval e1 X.env) :: starEach [e2] X.env := by rfl) (hst2 : starEach [e2] X.env = (false, eval e2 X.env) :: starEach [] X.env := by rfl)
    (hpl : (backTo pos (starEach [e2] X.env)).any (·.1) = false := by rfl) : TrR X (.Call (.Name "range" p) [e1, e2] [] pos) (wR2 u v) := by
  obtain ⟨t, pp, s⟩ := h.run
  obtain ⟨t2, pp2, s2⟩ := h2.run
  refine ⟨_, prg_2 hg hm pp pp2 hst hst2 hpl, fun B F0 H0 F H σ st Q Q' R hw k => run2 (Q' := fun x y H2 => ∃ i j, x = V.int i ∧ y = V.int j ∧ Q' i j H2) s s2 R hw fun x y F2 H2 d1 m1 d2 m2 f1 f2 ex r1 r2 n1 n2 dj hq => ?_⟩
  split at hq
  · have h := r1.read ex.wf
    have h' := r2.read ex.wf
    cases h
    cases h'
    exact ⟨_, _, rfl, rfl, k _ _ F2 H2 ex hq⟩
  · exact hq.elim
def rgD (a b : Int) : List PyData := (List.range (b - a).toNat).map fun i => .int (a + (i : Nat))
theorem rpAll_rg {K : PySem.W.Frag} {F : Hp} (a b : Int) : RpAll K F (rgV a b) (rgD a b) := by
  unfold rgV rgD
  induction List.range (b - a).toNat with
  | nil => exact .nil
  | cons i r ih => exact .cons (.int _) ih
def wLstR (r : WR) : WE := fun st Q => r st fun a b => inB a ∧ inB b ∧ b - a ≤ 16777216 ∧ Q (.list (rgD a b)) (.o 1)
def wTupR (r : WR) : WE := fun st Q => r st fun a b => inB a ∧ inB b ∧ b - a ≤ 16777216 ∧ Q (.tuple (rgD a b)) (.o 0)
theorem rgOk {a b : Int} (h1 : inB a) (h2 : inB b) (h3 : b - a ≤ 16777216) : RgOk a b := ⟨h1.1, h1.2, h2.1, h2.2, by omega⟩
theorem te_listR {r : WR} (hc : X.calm = true) (h : TrR X e r) (hg : Gl X "list") (hm : X.mg "list" = none) (hst : starEach [e] X.env = (false, eval e X.env) :: starEach [] X.env := by rfl) : TrE X (.Call (.Name "list" p) [e] [] pos) (wLstR r) := by
  obtain ⟨t, pp, s⟩ := h.run
  refine ⟨_, pe_listRg hc hg hm pp hst, fun B F0 H0 F H σ st Q Q' R hw k => s B F0 H0 F H σ st _ _ R hw fun a b F1 H1 x1 hq => ⟨rgOk hq.1 hq.2.1 hq.2.2.1, fun p np => ?_⟩⟩
  obtain ⟨y1, y2, y3⟩ := newL x1 np (rpAll_rg a b)
  exact k _ _ _ _ _ _ y1 y2 y3 hq.2.2.2
theorem te_tupleR {r : WR} (hc : X.calm = true) (h : TrR X e r) (hg : Gl X "tuple") (hm : X.mg "tuple" = none) (hst : starEach [e] X.env = (false, eval e X.env) :: starEach [] X.env := by rfl) : TrE X (.Call (.Name "tuple" p) [e] [] pos) (wTupR r) := by
  obtain ⟨t, pp, s⟩ := h.run
  refine ⟨_, pe_tupRg hc hg hm pp hst, fun B F0 H0 F H σ st Q Q' R hw k => s B F0 H0 F H σ st _ _ R hw fun a b F1 H1 x1 hq => ⟨rgOk hq.1 hq.2.1 hq.2.2.1, fun p np => ?_⟩⟩
  obtain ⟨y1, y2⟩ := newT x1 np (rpAll_rg a b)
  exact k _ _ _ _ _ [] y1 y2 (fun _ h => by simp at h) hq.2.2.2
def wRevR (r : WR) : WI := fun st Q => r st fun a b => inB a ∧ inB b ∧ Q (rngs (a + ((b - a).toNat : Int) - 1) (-1) (b - a).toNat) (.o 0)
theorem ti_revR {tg : Expr} {r : WR} (h : TrR X e r) (hg : Gl X "reversed") (hm : X.mg "reversed" = none) (hst : starEach [e] X.env = (false, eval e X.env) :: starEach [] X.env := by rfl) : TrI X tg (.Call (.Name "reversed" p) [e] [] pos) (wRevR r) := by
  obtain ⟨t, pp, s⟩ := h.run
  exact ⟨_, pi_revR hg hm pp hst, fun B F0 H0 F H σ st Q Q' R hw k => s B F0 H0 F H σ st _ _ R hw fun a b F1 H1 x1 hq => ⟨hq.1.1, hq.1.2, hq.2.1.1, hq.2.1.2, k _ F1 H1 _ (.o 0) x1 itOk_rngC hq.2.2⟩⟩
end
end AL

namespace AL
open PySem PySem.Spec PyProof.Rows L2

def br (c : Bool) (A B : Prop) : Prop := match c with
  | true => A
  | false => B
theorem br_t {A B : Prop} : br true A B = A := rfl
theorem br_f {A B : Prop} : br false A B = B := rfl
theorem br_not {c : Bool} {A B : Prop} : br (!c) A B = br c B A := by cases c <;> rfl
theorem br_dec {p : Prop} [Decidable p] {A B : Prop} : br (decide p) A B = ((p → A) ∧ (¬p → B)) := by
  by_cases h : p
  · rw [decide_eq_true h]; exact propext ⟨fun a => ⟨fun _ => a, fun n => absurd h n⟩, fun a => a.1 h⟩
  · rw [decide_eq_false h]; exact propext ⟨fun a => ⟨fun n => absurd n h, fun _ => a⟩, fun a => a.2 h⟩
theorem br_i {c : Bool} {A B : Prop} (h : c = true → A) (h2 : c = false → B) : br c A B := by
  cases c with
  | true => exact h rfl
  | false => exact h2 rfl
def Tg {α : Sort _} (_ : α) : Type := Unit
def tg {α : Sort _} (a : α) : Tg a := ()
def putK : AS → Nat → SV → (AS → Prop) → Prop
  | [], _, _, _ => False
  | _ :: r, 0, v, k => k (v :: r)
  | x :: r, i + 1, v, k => putK r i v fun r' => k (x :: r')
theorem putK_eq : ∀ (st : AS) (i : Nat) (v : SV) (k : AS → Prop), putK st i v k = (i < st.length ∧ k (put st i v))
  | [], i, v, k => by simp [putK]
  | x :: r, 0, v, k => by simp [putK, put]
  | x :: r, i + 1, v, k => by simp [putK, put, putK_eq r i v]
theorem r_put0 {x v : SV} {r : AS} {k : AS → Prop} : putK (x :: r) 0 v k = k (v :: r) := rfl
theorem r_putS {x v : SV} {r : AS} {i : Nat} {k : AS → Prop} : putK (x :: r) (i + 1) v k = putK r i v fun r' => k (x :: r') := rfl
section
variable {st : AS} {D : AEnds} {Q : QE} {a b : WS} {c c' : WT} {u v w : WE} {i j m n : Nat} {d e : PyData} {x y : Int} {s z : Str} {ds es : List PyData} {r : AS} {q : SV} {md md' : Md}
theorem r_next : wNext D st = D.nx st := rfl
theorem r_pass : wPass D st = D.nx st := rfl
theorem r_brk : wBrk D st = D.bk st := rfl
theorem r_cnt : wCnt D st = D.ct st := rfl
theorem r_seq : wSeq a b D st = a { D with nx := b D } st := rfl
theorem r_ret : wRet u D st = u st D.rt := rfl
theorem r_retN : wRetN D st = D.rt .none (.o 0) := rfl
theorem r_ifS : wIfS c a b D st = c st fun k => br k (a D st) (b D st) := by
  unfold wIfS
  exact congrArg _ (funext fun k => by cases k <;> rfl)
def varK (s : AS) (i : Nat) (Q : QE) : Prop := match slot s i with
  | .val d m => Q d (rdm m)
  | _ => False
theorem r_var : wVar i st Q = varK st i Q := rfl
theorem r_var0 : varK (.val d (.o 0) :: r) 0 Q = Q d (.o 0) := rfl
theorem r_var1 : varK (.val d (.o (m + 1)) :: r) 0 Q = Q d .b := rfl
theorem r_varb : varK (.val d .b :: r) 0 Q = Q d .b := rfl
theorem r_varS : varK (q :: r) (i + 1) Q = varK r i Q := rfl
def retK (s : AS) (i : Nat) (Q : QE) : Prop := match slot s i with
  | .val d m => Q d m
  | _ => False
theorem r_retV : wRetV i D st = retK st i D.rt := rfl
theorem r_retV0 : retK (.val d md :: r) 0 Q = Q d md := rfl
theorem r_retVS : retK (q :: r) (i + 1) Q = retK r i Q := rfl
theorem r_C : wC d st Q = Q d (.o 0) := rfl
theorem r_w2 {o : Op2} : w2 o u v st Q = u st fun d1 m1 => v st fun d2 m2 => o d1 m1 d2 m2 Q := rfl
theorem r_w1 {o : Fn1} : w1 o u st Q = u st fun d m => o d m Q := rfl
def tstK (Q : Bool → Prop) (d : PyData) (_ : Md) : Prop := match d with
  | .bool c => Q c
  | _ => False
theorem r_tst {Q : Bool → Prop} : wTst u st Q = u st (tstK Q) := rfl
theorem r_tstK {Q : Bool → Prop} {k : Bool} : tstK Q (.bool k) md = Q k := rfl
theorem r_and {Q : Bool → Prop} : wAnd c c' st Q = c st fun k => br k (c' st Q) (Q false) := by
  unfold wAnd
  exact congrArg _ (funext fun k => by cases k <;> rfl)
theorem r_or {Q : Bool → Prop} : wOr c c' st Q = c st fun k => br k (Q true) (c' st Q) := by
  unfold wOr
  exact congrArg _ (funext fun k => by cases k <;> rfl)
theorem r_not {Q : Bool → Prop} : wNot c st Q = c st fun k => Q (!k) := rfl
theorem r_yes {Q : Bool → Prop} : wYes st Q = Q true := rfl
theorem r_if : wIf c u v st Q = c st fun k => br k (u st Q) (v st Q) := by
  unfold wIf
  exact congrArg _ (funext fun k => by cases k <;> rfl)
def andK (u : WE) (st : AS) (Q : QE) (d : PyData) (_ : Md) : Prop := match d with
  | .bool c => br c (u st Q) (Q (.bool false) (.o 0))
  | _ => False
def orK (u : WE) (st : AS) (Q : QE) (d : PyData) (_ : Md) : Prop := match d with
  | .bool c => br c (Q (.bool true) (.o 0)) (u st Q)
  | _ => False
def notK (Q : QE) (d : PyData) (_ : Md) : Prop := match d with
  | .bool c => Q (.bool (!c)) (.o 0)
  | _ => False
theorem r_andV : wAndV u v st Q = u st (andK v st Q) := by
  unfold wAndV
  exact congrArg _ (funext fun d => funext fun m => by
    cases d with
    | bool k => cases k <;> rfl
    | _ => rfl)
theorem r_orV : wOrV u v st Q = u st (orK v st Q) := by
  unfold wOrV
  exact congrArg _ (funext fun d => funext fun m => by
    cases d with
    | bool k => cases k <;> rfl
    | _ => rfl)
theorem r_notV : wNotV u st Q = u st (notK Q) := rfl
theorem r_andK {k : Bool} : andK u st Q (.bool k) md = br k (u st Q) (Q (.bool false) (.o 0)) := rfl
theorem r_orK {k : Bool} : orK u st Q (.bool k) md = br k (Q (.bool true) (.o 0)) (u st Q) := rfl
theorem r_notK {k : Bool} : notK Q (.bool k) md = Q (.bool (!k)) (.o 0) := rfl
def JnK (b : Bool) (d : PyData) (Q : QE) (_ : Tg Q) : Prop := Q d (jn b true)
theorem jn_1 {b : Bool} {t : Tg Q} (h : b = true) (k : Q d (.o 1)) : JnK b d Q t := by unfold JnK; rw [h]; exact k
theorem jn_0 {b : Bool} {t : Tg Q} (h : b = false) (k : Q d .b) : JnK b d Q t := by unfold JnK; rw [h]; exact k
theorem jn_and {a b : Bool} : jn a b = jn (a && b) true := by unfold jn; rw [Bool.and_true]
theorem allsc {α : Type} {f : α → PyData} {xs : List α} (h : ∀ x, sc (f x) = true) : (xs.map f).all sc = true := by
  rw [List.all_map]
  exact List.all_eq_true.mpr fun x _ => h x
theorem r_addI : aAdd (.int x) md (.int y) md' Q = Q (.int (x + y)) (.o 0) := rfl
theorem r_addS : aAdd (.str s) md (.str z) md' Q = (s.length + z.length ≤ sizeLine ∧ Q (.str (s ++ z)) (.o 0)) := rfl
theorem r_addL : aAdd (.list ds) (.o m) (.list es) (.o n) Q = (ds.length + es.length ≤ sizeLine ∧ Q (.list (ds ++ es)) (.o 1)) := rfl
theorem r_addLb : aAdd (.list ds) .b (.list es) (.o n) Q = (ds.length + es.length ≤ sizeLine ∧ JnK (ds.all sc) (.list (ds ++ es)) Q (tg Q)) := rfl
theorem r_addLc : aAdd (.list ds) (.o m) (.list es) .b Q = (ds.length + es.length ≤ sizeLine ∧ JnK (es.all sc) (.list (ds ++ es)) Q (tg Q)) := by unfold JnK; rw [show jn (es.all sc) true = jn true (es.all sc) by unfold jn; rw [Bool.and_comm]]; rfl
theorem r_addLd : aAdd (.list ds) .b (.list es) .b Q = (ds.length + es.length ≤ sizeLine ∧ JnK (ds.all sc && es.all sc) (.list (ds ++ es)) Q (tg Q)) := by unfold JnK; rw [← jn_and (a := ds.all sc)]; rfl
theorem r_addT : aAdd (.tuple ds) (.o m) (.tuple es) (.o n) Q = (ds.length + es.length ≤ sizeLine ∧ Q (.tuple (ds ++ es)) (.o 0)) := by simp [aAdd, isO]
theorem r_sub : aSub (.int x) md (.int y) md' Q = Q (.int (x - y)) (.o 0) := rfl
theorem r_mul : aMul (.int x) md (.int y) md' Q = (((-18446744073709551616 < x ∧ x < 18446744073709551616) ∨ (-18446744073709551616 < y ∧ y < 18446744073709551616)) ∧ Q (.int (x * y)) (.o 0)) := rfl
theorem r_div : aDiv (.int x) md (.int y) md' Q = ((0 < y ∧ y < 1073741824) ∧ Q (.int (x / y)) (.o 0)) := rfl
theorem r_divN : aDivN (.int x) md (.int y) md' Q = ((y ≠ 0 ∧ y.natAbs < 1073741824) ∧ Q (.int (x.fdiv y)) (.o 0)) := rfl
theorem r_mod : aMod (.int x) md (.int y) md' Q = (0 < y ∧ Q (.int (x % y)) (.o 0)) := rfl
theorem r_modN : aModN (.int x) md (.int y) md' Q = (y ≠ 0 ∧ Q (.int (x.fmod y)) (.o 0)) := rfl
theorem r_pow : aPow (.int x) md (.int y) md' Q = ((0 ≤ y ∧ y ≤ 1000000 ∧ -18446744073709551616 < x ∧ x < 18446744073709551616) ∧ Q (.int (x ^ y.toNat)) (.o 0)) := by
  have e : (x.natAbs < 2 ^ 64) = (-18446744073709551616 < x ∧ x < 18446744073709551616) := propext (by omega)
  rw [← e]
  rfl
theorem r_rep : aRep (.list ds) (.o m) (.int y) md' Q = (-9223372036854775808 ≤ y ∧ y < 9223372036854775808 ∧ ds.length * y.toNat ≤ sizeLine ∧ Q (.list (List.replicate y.toNat ds).flatten) (.o 1)) := rfl
theorem r_repb : aRep (.list ds) .b (.int y) md' Q = (-9223372036854775808 ≤ y ∧ y < 9223372036854775808 ∧ ds.length * y.toNat ≤ sizeLine ∧ JnK (ds.all sc) (.list (List.replicate y.toNat ds).flatten) Q (tg Q)) := rfl
def negK (Q : QE) (d : PyData) (_ : Md) : Prop := match d with
  | .int i => Q (.int (-i)) (.o 0)
  | _ => False
theorem r_neg : wNeg u st Q = u st (negK Q) := rfl
theorem r_negK : negK Q (.int x) md = Q (.int (-x)) (.o 0) := rfl
theorem r_max2 : aMax2 (.int x) md (.int y) md' Q = Q (.int (if y > x then y else x)) (.o 0) := rfl
theorem r_min2 : aMin2 (.int x) md (.int y) md' Q = Q (.int (if y < x then y else x)) (.o 0) := rfl
theorem r_lt : aLt (.int x) md (.int y) md' Q = Q (.bool (decide (x < y))) (.o 0) := rfl
theorem r_le : aLe (.int x) md (.int y) md' Q = Q (.bool (decide (x ≤ y))) (.o 0) := rfl
theorem r_gt : aGt (.int x) md (.int y) md' Q = Q (.bool (decide (y < x))) (.o 0) := rfl
theorem r_ge : aGe (.int x) md (.int y) md' Q = Q (.bool (decide (y ≤ x))) (.o 0) := rfl
theorem r_eqI : aEq (.int x) md (.int y) md' Q = Q (.bool (decide (x = y))) (.o 0) := by simp [aEq, dEqOk, dEq]
theorem r_eqS : aEq (.str s) md (.str z) md' Q = Q (.bool (decide (s = z))) (.o 0) := by simp [aEq, dEqOk, dEq]
theorem r_eqB {k l : Bool} : aEq (.bool k) md (.bool l) md' Q = Q (.bool (decide (k = l))) (.o 0) := by simp [aEq, dEqOk, dEq]
theorem r_neI : aNe (.int x) md (.int y) md' Q = Q (.bool (!decide (x = y))) (.o 0) := by simp [aNe, dEqOk, dEq]
theorem r_neS : aNe (.str s) md (.str z) md' Q = Q (.bool (!decide (s = z))) (.o 0) := by simp [aNe, dEqOk, dEq]
theorem r_neB {k l : Bool} : aNe (.bool k) md (.bool l) md' Q = Q (.bool (!decide (k = l))) (.o 0) := by simp [aNe, dEqOk, dEq]
theorem r_in : aIn d md e md' Q = (dInOk d e = true ∧ Q (.bool (dIn d e)) (.o 0)) := rfl
theorem r_notIn : aNotIn d md e md' Q = (dInOk d e = true ∧ Q (.bool (!dIn d e)) (.o 0)) := rfl
theorem r_eqLL : aEq (.list ds) md (.list es) md' Q = (dEqOk (.list ds) (.list es) = true ∧ Q (.bool (dEq (.list ds) (.list es))) (.o 0)) := rfl
theorem r_neLL : aNe (.list ds) md (.list es) md' Q = (dEqOk (.list ds) (.list es) = true ∧ Q (.bool (!dEq (.list ds) (.list es))) (.o 0)) := rfl
theorem r_eqLT : aEq (.list ds) md (.tuple es) md' Q = (dEqOk (.list ds) (.tuple es) = true ∧ Q (.bool (dEq (.list ds) (.tuple es))) (.o 0)) := rfl
theorem r_neLT : aNe (.list ds) md (.tuple es) md' Q = (dEqOk (.list ds) (.tuple es) = true ∧ Q (.bool (!dEq (.list ds) (.tuple es))) (.o 0)) := rfl
theorem r_eqLN : aEq (.list ds) md .none md' Q = (dEqOk (.list ds) .none = true ∧ Q (.bool (dEq (.list ds) .none)) (.o 0)) := rfl
theorem r_neLN : aNe (.list ds) md .none md' Q = (dEqOk (.list ds) .none = true ∧ Q (.bool (!dEq (.list ds) .none)) (.o 0)) := rfl
theorem r_eqLI : aEq (.list ds) md (.int y) md' Q = (dEqOk (.list ds) (.int y) = true ∧ Q (.bool (dEq (.list ds) (.int y))) (.o 0)) := rfl
theorem r_neLI : aNe (.list ds) md (.int y) md' Q = (dEqOk (.list ds) (.int y) = true ∧ Q (.bool (!dEq (.list ds) (.int y))) (.o 0)) := rfl
theorem r_eqLS : aEq (.list ds) md (.str z) md' Q = (dEqOk (.list ds) (.str z) = true ∧ Q (.bool (dEq (.list ds) (.str z))) (.o 0)) := rfl
theorem r_neLS : aNe (.list ds) md (.str z) md' Q = (dEqOk (.list ds) (.str z) = true ∧ Q (.bool (!dEq (.list ds) (.str z))) (.o 0)) := rfl
theorem r_eqLB {l : Bool} : aEq (.list ds) md (.bool l) md' Q = (dEqOk (.list ds) (.bool l) = true ∧ Q (.bool (dEq (.list ds) (.bool l))) (.o 0)) := rfl
theorem r_neLB {l : Bool} : aNe (.list ds) md (.bool l) md' Q = (dEqOk (.list ds) (.bool l) = true ∧ Q (.bool (!dEq (.list ds) (.bool l))) (.o 0)) := rfl
theorem r_eqTL : aEq (.tuple ds) md (.list es) md' Q = (dEqOk (.tuple ds) (.list es) = true ∧ Q (.bool (dEq (.tuple ds) (.list es))) (.o 0)) := rfl
theorem r_neTL : aNe (.tuple ds) md (.list es) md' Q = (dEqOk (.tuple ds) (.list es) = true ∧ Q (.bool (!dEq (.tuple ds) (.list es))) (.o 0)) := rfl
theorem r_eqTT : aEq (.tuple ds) md (.tuple es) md' Q = (dEqOk (.tuple ds) (.tuple es) = true ∧ Q (.bool (dEq (.tuple ds) (.tuple es))) (.o 0)) := rfl
theorem r_neTT : aNe (.tuple ds) md (.tuple es) md' Q = (dEqOk (.tuple ds) (.tuple es) = true ∧ Q (.bool (!dEq (.tuple ds) (.tuple es))) (.o 0)) := rfl
theorem r_eqTN : aEq (.tuple ds) md .none md' Q = (dEqOk (.tuple ds) .none = true ∧ Q (.bool (dEq (.tuple ds) .none)) (.o 0)) := rfl
theorem r_neTN : aNe (.tuple ds) md .none md' Q = (dEqOk (.tuple ds) .none = true ∧ Q (.bool (!dEq (.tuple ds) .none)) (.o 0)) := rfl
theorem r_eqTI : aEq (.tuple ds) md (.int y) md' Q = (dEqOk (.tuple ds) (.int y) = true ∧ Q (.bool (dEq (.tuple ds) (.int y))) (.o 0)) := rfl
theorem r_neTI : aNe (.tuple ds) md (.int y) md' Q = (dEqOk (.tuple ds) (.int y) = true ∧ Q (.bool (!dEq (.tuple ds) (.int y))) (.o 0)) := rfl
theorem r_eqTS : aEq (.tuple ds) md (.str z) md' Q = (dEqOk (.tuple ds) (.str z) = true ∧ Q (.bool (dEq (.tuple ds) (.str z))) (.o 0)) := rfl
theorem r_neTS : aNe (.tuple ds) md (.str z) md' Q = (dEqOk (.tuple ds) (.str z) = true ∧ Q (.bool (!dEq (.tuple ds) (.str z))) (.o 0)) := rfl
theorem r_eqTB {l : Bool} : aEq (.tuple ds) md (.bool l) md' Q = (dEqOk (.tuple ds) (.bool l) = true ∧ Q (.bool (dEq (.tuple ds) (.bool l))) (.o 0)) := rfl
theorem r_neTB {l : Bool} : aNe (.tuple ds) md (.bool l) md' Q = (dEqOk (.tuple ds) (.bool l) = true ∧ Q (.bool (!dEq (.tuple ds) (.bool l))) (.o 0)) := rfl
theorem r_eqNL : aEq .none md (.list es) md' Q = (dEqOk .none (.list es) = true ∧ Q (.bool (dEq .none (.list es))) (.o 0)) := rfl
theorem r_neNL : aNe .none md (.list es) md' Q = (dEqOk .none (.list es) = true ∧ Q (.bool (!dEq .none (.list es))) (.o 0)) := rfl
theorem r_eqNT : aEq .none md (.tuple es) md' Q = (dEqOk .none (.tuple es) = true ∧ Q (.bool (dEq .none (.tuple es))) (.o 0)) := rfl
theorem r_neNT : aNe .none md (.tuple es) md' Q = (dEqOk .none (.tuple es) = true ∧ Q (.bool (!dEq .none (.tuple es))) (.o 0)) := rfl
theorem r_eqNN : aEq .none md .none md' Q = (dEqOk .none .none = true ∧ Q (.bool (dEq .none .none)) (.o 0)) := rfl
theorem r_neNN : aNe .none md .none md' Q = (dEqOk .none .none = true ∧ Q (.bool (!dEq .none .none)) (.o 0)) := rfl
theorem r_eqNI : aEq .none md (.int y) md' Q = (dEqOk .none (.int y) = true ∧ Q (.bool (dEq .none (.int y))) (.o 0)) := rfl
theorem r_neNI : aNe .none md (.int y) md' Q = (dEqOk .none (.int y) = true ∧ Q (.bool (!dEq .none (.int y))) (.o 0)) := rfl
theorem r_eqNS : aEq .none md (.str z) md' Q = (dEqOk .none (.str z) = true ∧ Q (.bool (dEq .none (.str z))) (.o 0)) := rfl
theorem r_neNS : aNe .none md (.str z) md' Q = (dEqOk .none (.str z) = true ∧ Q (.bool (!dEq .none (.str z))) (.o 0)) := rfl
theorem r_eqNB {l : Bool} : aEq .none md (.bool l) md' Q = (dEqOk .none (.bool l) = true ∧ Q (.bool (dEq .none (.bool l))) (.o 0)) := rfl
theorem r_neNB {l : Bool} : aNe .none md (.bool l) md' Q = (dEqOk .none (.bool l) = true ∧ Q (.bool (!dEq .none (.bool l))) (.o 0)) := rfl
theorem r_eqIL : aEq (.int x) md (.list es) md' Q = (dEqOk (.int x) (.list es) = true ∧ Q (.bool (dEq (.int x) (.list es))) (.o 0)) := rfl
theorem r_neIL : aNe (.int x) md (.list es) md' Q = (dEqOk (.int x) (.list es) = true ∧ Q (.bool (!dEq (.int x) (.list es))) (.o 0)) := rfl
theorem r_eqIT : aEq (.int x) md (.tuple es) md' Q = (dEqOk (.int x) (.tuple es) = true ∧ Q (.bool (dEq (.int x) (.tuple es))) (.o 0)) := rfl
theorem r_neIT : aNe (.int x) md (.tuple es) md' Q = (dEqOk (.int x) (.tuple es) = true ∧ Q (.bool (!dEq (.int x) (.tuple es))) (.o 0)) := rfl
theorem r_eqIN : aEq (.int x) md .none md' Q = (dEqOk (.int x) .none = true ∧ Q (.bool (dEq (.int x) .none)) (.o 0)) := rfl
theorem r_neIN : aNe (.int x) md .none md' Q = (dEqOk (.int x) .none = true ∧ Q (.bool (!dEq (.int x) .none)) (.o 0)) := rfl
theorem r_eqIS : aEq (.int x) md (.str z) md' Q = (dEqOk (.int x) (.str z) = true ∧ Q (.bool (dEq (.int x) (.str z))) (.o 0)) := rfl
theorem r_neIS : aNe (.int x) md (.str z) md' Q = (dEqOk (.int x) (.str z) = true ∧ Q (.bool (!dEq (.int x) (.str z))) (.o 0)) := rfl
theorem r_eqIB {l : Bool} : aEq (.int x) md (.bool l) md' Q = (dEqOk (.int x) (.bool l) = true ∧ Q (.bool (dEq (.int x) (.bool l))) (.o 0)) := rfl
theorem r_neIB {l : Bool} : aNe (.int x) md (.bool l) md' Q = (dEqOk (.int x) (.bool l) = true ∧ Q (.bool (!dEq (.int x) (.bool l))) (.o 0)) := rfl
theorem r_eqSL : aEq (.str s) md (.list es) md' Q = (dEqOk (.str s) (.list es) = true ∧ Q (.bool (dEq (.str s) (.list es))) (.o 0)) := rfl
theorem r_neSL : aNe (.str s) md (.list es) md' Q = (dEqOk (.str s) (.list es) = true ∧ Q (.bool (!dEq (.str s) (.list es))) (.o 0)) := rfl
theorem r_eqST : aEq (.str s) md (.tuple es) md' Q = (dEqOk (.str s) (.tuple es) = true ∧ Q (.bool (dEq (.str s) (.tuple es))) (.o 0)) := rfl
theorem r_neST : aNe (.str s) md (.tuple es) md' Q = (dEqOk (.str s) (.tuple es) = true ∧ Q (.bool (!dEq (.str s) (.tuple es))) (.o 0)) := rfl
theorem r_eqSN : aEq (.str s) md .none md' Q = (dEqOk (.str s) .none = true ∧ Q (.bool (dEq (.str s) .none)) (.o 0)) := rfl
theorem r_neSN : aNe (.str s) md .none md' Q = (dEqOk (.str s) .none = true ∧ Q (.bool (!dEq (.str s) .none)) (.o 0)) := rfl
theorem r_eqSI : aEq (.str s) md (.int y) md' Q = (dEqOk (.str s) (.int y) = true ∧ Q (.bool (dEq (.str s) (.int y))) (.o 0)) := rfl
theorem r_neSI : aNe (.str s) md (.int y) md' Q = (dEqOk (.str s) (.int y) = true ∧ Q (.bool (!dEq (.str s) (.int y))) (.o 0)) := rfl
theorem r_eqSB {l : Bool} : aEq (.str s) md (.bool l) md' Q = (dEqOk (.str s) (.bool l) = true ∧ Q (.bool (dEq (.str s) (.bool l))) (.o 0)) := rfl
theorem r_neSB {l : Bool} : aNe (.str s) md (.bool l) md' Q = (dEqOk (.str s) (.bool l) = true ∧ Q (.bool (!dEq (.str s) (.bool l))) (.o 0)) := rfl
theorem r_eqBL {k : Bool} : aEq (.bool k) md (.list es) md' Q = (dEqOk (.bool k) (.list es) = true ∧ Q (.bool (dEq (.bool k) (.list es))) (.o 0)) := rfl
theorem r_neBL {k : Bool} : aNe (.bool k) md (.list es) md' Q = (dEqOk (.bool k) (.list es) = true ∧ Q (.bool (!dEq (.bool k) (.list es))) (.o 0)) := rfl
theorem r_eqBT {k : Bool} : aEq (.bool k) md (.tuple es) md' Q = (dEqOk (.bool k) (.tuple es) = true ∧ Q (.bool (dEq (.bool k) (.tuple es))) (.o 0)) := rfl
theorem r_neBT {k : Bool} : aNe (.bool k) md (.tuple es) md' Q = (dEqOk (.bool k) (.tuple es) = true ∧ Q (.bool (!dEq (.bool k) (.tuple es))) (.o 0)) := rfl
theorem r_eqBN {k : Bool} : aEq (.bool k) md .none md' Q = (dEqOk (.bool k) .none = true ∧ Q (.bool (dEq (.bool k) .none)) (.o 0)) := rfl
theorem r_neBN {k : Bool} : aNe (.bool k) md .none md' Q = (dEqOk (.bool k) .none = true ∧ Q (.bool (!dEq (.bool k) .none)) (.o 0)) := rfl
theorem r_eqBI {k : Bool} : aEq (.bool k) md (.int y) md' Q = (dEqOk (.bool k) (.int y) = true ∧ Q (.bool (dEq (.bool k) (.int y))) (.o 0)) := rfl
theorem r_neBI {k : Bool} : aNe (.bool k) md (.int y) md' Q = (dEqOk (.bool k) (.int y) = true ∧ Q (.bool (!dEq (.bool k) (.int y))) (.o 0)) := rfl
theorem r_eqBS {k : Bool} : aEq (.bool k) md (.str z) md' Q = (dEqOk (.bool k) (.str z) = true ∧ Q (.bool (dEq (.bool k) (.str z))) (.o 0)) := rfl
theorem r_neBS {k : Bool} : aNe (.bool k) md (.str z) md' Q = (dEqOk (.bool k) (.str z) = true ∧ Q (.bool (!dEq (.bool k) (.str z))) (.o 0)) := rfl
def isnK (Q : QE) (d : PyData) (_ : Md) : Prop := Q (.bool (dNon d)) (.o 0)
def nonK (Q : QE) (d : PyData) (_ : Md) : Prop := Q (.bool (!dNon d)) (.o 0)
theorem r_isN : wIsN u st Q = u st (isnK Q) := rfl
theorem r_notN : wNotN u st Q = u st (nonK Q) := rfl

theorem r_isn_none : isnK Q .none md = Q (.bool true) (.o 0) := rfl
theorem r_non_none : nonK Q .none md = Q (.bool false) (.o 0) := rfl
theorem r_isn_bool {k : Bool} : isnK Q (.bool k) md = Q (.bool false) (.o 0) := rfl
theorem r_non_bool {k : Bool} : nonK Q (.bool k) md = Q (.bool true) (.o 0) := rfl
theorem r_isn_int : isnK Q (.int x) md = Q (.bool false) (.o 0) := rfl
theorem r_non_int : nonK Q (.int x) md = Q (.bool true) (.o 0) := rfl
theorem r_isn_str : isnK Q (.str s) md = Q (.bool false) (.o 0) := rfl
theorem r_non_str : nonK Q (.str s) md = Q (.bool true) (.o 0) := rfl
theorem r_isn_list : isnK Q (.list ds) md = Q (.bool false) (.o 0) := rfl
theorem r_non_list : nonK Q (.list ds) md = Q (.bool true) (.o 0) := rfl
theorem r_isn_tuple : isnK Q (.tuple ds) md = Q (.bool false) (.o 0) := rfl
theorem r_non_tuple : nonK Q (.tuple ds) md = Q (.bool true) (.o 0) := rfl
def isiK (n : String) (Q : QE) (d : PyData) (_ : Md) : Prop := Q (.bool (isT n d)) (.o 0)
theorem r_isi {n : String} : wIsi n u st Q = u st (isiK n Q) := rfl
theorem r_isi_none_bool : isiK "bool" Q .none md = Q (.bool false) (.o 0) := rfl
theorem r_isi_none_int : isiK "int" Q .none md = Q (.bool false) (.o 0) := rfl
theorem r_isi_none_str : isiK "str" Q .none md = Q (.bool false) (.o 0) := rfl
theorem r_isi_none_list : isiK "list" Q .none md = Q (.bool false) (.o 0) := rfl
theorem r_isi_none_tuple : isiK "tuple" Q .none md = Q (.bool false) (.o 0) := rfl
theorem r_isi_bool_bool {k : Bool} : isiK "bool" Q (.bool k) md = Q (.bool true) (.o 0) := rfl
theorem r_isi_bool_int {k : Bool} : isiK "int" Q (.bool k) md = Q (.bool true) (.o 0) := rfl
theorem r_isi_bool_str {k : Bool} : isiK "str" Q (.bool k) md = Q (.bool false) (.o 0) := rfl
theorem r_isi_bool_list {k : Bool} : isiK "list" Q (.bool k) md = Q (.bool false) (.o 0) := rfl
theorem r_isi_bool_tuple {k : Bool} : isiK "tuple" Q (.bool k) md = Q (.bool false) (.o 0) := rfl
theorem r_isi_int_bool : isiK "bool" Q (.int x) md = Q (.bool false) (.o 0) := rfl
theorem r_isi_int_int : isiK "int" Q (.int x) md = Q (.bool true) (.o 0) := rfl
theorem r_isi_int_str : isiK "str" Q (.int x) md = Q (.bool false) (.o 0) := rfl
theorem r_isi_int_list : isiK "list" Q (.int x) md = Q (.bool false) (.o 0) := rfl
theorem r_isi_int_tuple : isiK "tuple" Q (.int x) md = Q (.bool false) (.o 0) := rfl
theorem r_isi_str_bool : isiK "bool" Q (.str s) md = Q (.bool false) (.o 0) := rfl
theorem r_isi_str_int : isiK "int" Q (.str s) md = Q (.bool false) (.o 0) := rfl
theorem r_isi_str_str : isiK "str" Q (.str s) md = Q (.bool true) (.o 0) := rfl
theorem r_isi_str_list : isiK "list" Q (.str s) md = Q (.bool false) (.o 0) := rfl
theorem r_isi_str_tuple : isiK "tuple" Q (.str s) md = Q (.bool false) (.o 0) := rfl
theorem r_isi_list_bool : isiK "bool" Q (.list ds) md = Q (.bool false) (.o 0) := rfl
theorem r_isi_list_int : isiK "int" Q (.list ds) md = Q (.bool false) (.o 0) := rfl
theorem r_isi_list_str : isiK "str" Q (.list ds) md = Q (.bool false) (.o 0) := rfl
theorem r_isi_list_list : isiK "list" Q (.list ds) md = Q (.bool true) (.o 0) := rfl
theorem r_isi_list_tuple : isiK "tuple" Q (.list ds) md = Q (.bool false) (.o 0) := rfl
theorem r_isi_tuple_bool : isiK "bool" Q (.tuple ds) md = Q (.bool false) (.o 0) := rfl
theorem r_isi_tuple_int : isiK "int" Q (.tuple ds) md = Q (.bool false) (.o 0) := rfl
theorem r_isi_tuple_str : isiK "str" Q (.tuple ds) md = Q (.bool false) (.o 0) := rfl
theorem r_isi_tuple_list : isiK "list" Q (.tuple ds) md = Q (.bool false) (.o 0) := rfl
theorem r_isi_tuple_tuple : isiK "tuple" Q (.tuple ds) md = Q (.bool true) (.o 0) := rfl
theorem r_isBl_none {l : Bool} : aIsBl l .none md (.bool l) md' Q = Q (.bool false) (.o 0) := by simp [aIsBl, dBl]
theorem r_isBl_bool_true {k : Bool} : aIsBl true (.bool k) md (.bool true) md' Q = Q (.bool k) (.o 0) := by simp [aIsBl, dBl]
theorem r_isBl_bool_false {k : Bool} : aIsBl false (.bool k) md (.bool false) md' Q = Q (.bool (!k)) (.o 0) := by simp [aIsBl, dBl]
theorem r_isBl_int {l : Bool} : aIsBl l (.int x) md (.bool l) md' Q = Q (.bool false) (.o 0) := by simp [aIsBl, dBl]
theorem r_isBl_str {l : Bool} : aIsBl l (.str s) md (.bool l) md' Q = Q (.bool false) (.o 0) := by simp [aIsBl, dBl]
theorem r_isBl_list {l : Bool} : aIsBl l (.list ds) md (.bool l) md' Q = Q (.bool false) (.o 0) := by simp [aIsBl, dBl]
theorem r_isBl_tuple {l : Bool} : aIsBl l (.tuple ds) md (.bool l) md' Q = Q (.bool false) (.o 0) := by simp [aIsBl, dBl]
theorem r_notBl_none {l : Bool} : aNotBl l .none md (.bool l) md' Q = Q (.bool true) (.o 0) := by simp [aNotBl, dBl]
theorem r_notBl_bool_true {k : Bool} : aNotBl true (.bool k) md (.bool true) md' Q = Q (.bool (!k)) (.o 0) := by simp [aNotBl, dBl]
theorem r_notBl_bool_false {k : Bool} : aNotBl false (.bool k) md (.bool false) md' Q = Q (.bool k) (.o 0) := by simp [aNotBl, dBl]
theorem r_notBl_int {l : Bool} : aNotBl l (.int x) md (.bool l) md' Q = Q (.bool true) (.o 0) := by simp [aNotBl, dBl]
theorem r_notBl_str {l : Bool} : aNotBl l (.str s) md (.bool l) md' Q = Q (.bool true) (.o 0) := by simp [aNotBl, dBl]
theorem r_notBl_list {l : Bool} : aNotBl l (.list ds) md (.bool l) md' Q = Q (.bool true) (.o 0) := by simp [aNotBl, dBl]
theorem r_notBl_tuple {l : Bool} : aNotBl l (.tuple ds) md (.bool l) md' Q = Q (.bool true) (.o 0) := by simp [aNotBl, dBl]
theorem zc_0 : ((0 : Nat) : Int) = 0 := rfl
theorem z_le0 : (0 ≤ sizeLine) = True := eq_true (by decide)
theorem z_lt0 : (0 < sizeLine) = True := eq_true (by decide)
theorem zc_1 : ((1 : Nat) : Int) = 1 := rfl
theorem z_le1 : (1 ≤ sizeLine) = True := eq_true (by decide)
theorem z_lt1 : (1 < sizeLine) = True := eq_true (by decide)
theorem zc_2 : ((2 : Nat) : Int) = 2 := rfl
theorem z_le2 : (2 ≤ sizeLine) = True := eq_true (by decide)
theorem z_lt2 : (2 < sizeLine) = True := eq_true (by decide)
theorem zc_3 : ((3 : Nat) : Int) = 3 := rfl
theorem z_le3 : (3 ≤ sizeLine) = True := eq_true (by decide)
theorem z_lt3 : (3 < sizeLine) = True := eq_true (by decide)
theorem zc_4 : ((4 : Nat) : Int) = 4 := rfl
theorem z_le4 : (4 ≤ sizeLine) = True := eq_true (by decide)
theorem z_lt4 : (4 < sizeLine) = True := eq_true (by decide)
theorem zc_5 : ((5 : Nat) : Int) = 5 := rfl
theorem z_le5 : (5 ≤ sizeLine) = True := eq_true (by decide)
theorem z_lt5 : (5 < sizeLine) = True := eq_true (by decide)
theorem zc_6 : ((6 : Nat) : Int) = 6 := rfl
theorem z_le6 : (6 ≤ sizeLine) = True := eq_true (by decide)
theorem z_lt6 : (6 < sizeLine) = True := eq_true (by decide)
theorem zc_7 : ((7 : Nat) : Int) = 7 := rfl
theorem z_le7 : (7 ≤ sizeLine) = True := eq_true (by decide)
theorem z_lt7 : (7 < sizeLine) = True := eq_true (by decide)
theorem zc_8 : ((8 : Nat) : Int) = 8 := rfl
theorem z_le8 : (8 ≤ sizeLine) = True := eq_true (by decide)
theorem z_lt8 : (8 < sizeLine) = True := eq_true (by decide)
theorem zc_9 : ((9 : Nat) : Int) = 9 := rfl
theorem z_le9 : (9 ≤ sizeLine) = True := eq_true (by decide)
theorem z_lt9 : (9 < sizeLine) = True := eq_true (by decide)
theorem zc_10 : ((10 : Nat) : Int) = 10 := rfl
theorem z_le10 : (10 ≤ sizeLine) = True := eq_true (by decide)
theorem z_lt10 : (10 < sizeLine) = True := eq_true (by decide)
theorem zc_11 : ((11 : Nat) : Int) = 11 := rfl
theorem z_le11 : (11 ≤ sizeLine) = True := eq_true (by decide)
theorem z_lt11 : (11 < sizeLine) = True := eq_true (by decide)
theorem zc_12 : ((12 : Nat) : Int) = 12 := rfl
theorem z_le12 : (12 ≤ sizeLine) = True := eq_true (by decide)
theorem z_lt12 : (12 < sizeLine) = True := eq_true (by decide)
theorem zc_13 : ((13 : Nat) : Int) = 13 := rfl
theorem z_le13 : (13 ≤ sizeLine) = True := eq_true (by decide)
theorem z_lt13 : (13 < sizeLine) = True := eq_true (by decide)
theorem zc_14 : ((14 : Nat) : Int) = 14 := rfl
theorem z_le14 : (14 ≤ sizeLine) = True := eq_true (by decide)
theorem z_lt14 : (14 < sizeLine) = True := eq_true (by decide)
theorem zc_15 : ((15 : Nat) : Int) = 15 := rfl
theorem z_le15 : (15 ≤ sizeLine) = True := eq_true (by decide)
theorem z_lt15 : (15 < sizeLine) = True := eq_true (by decide)
theorem zc_16 : ((16 : Nat) : Int) = 16 := rfl
theorem z_le16 : (16 ≤ sizeLine) = True := eq_true (by decide)
theorem z_lt16 : (16 < sizeLine) = True := eq_true (by decide)
def AtK (ds : List PyData) (m : Md) (i : Int) (Q : QE) (_ : Tg Q) : Prop := match atI ds i with
  | some d => Q d (elm m d)
  | none => False
def AtT (ds : List PyData) (m : Md) (i : Int) (Q : QE) (_ : Tg Q) : Prop := match atI ds i with
  | some d => Q d (elt m d)
  | none => False
def AtS (z : Str) (i : Int) (Q : QE) (_ : Tg Q) : Prop := match atI z.cps.toList i with
  | some c => Q (.str ⟨#[c]⟩) (.o 0)
  | none => False
theorem r_ixL : aIx (.list ds) md (.int x) md' Q = AtK ds md x Q (tg Q) := rfl
theorem r_ixT : aIx (.tuple ds) md (.int x) md' Q = AtT ds md x Q (tg Q) := rfl
theorem r_ixS : aIx (.str z) md (.int x) md' Q = (z.length ≤ sizeLine ∧ AtS z x Q (tg Q)) := rfl
theorem at_ {t : Tg Q} (h : atI ds x = some d) (k : Q d (elm md d)) : AtK ds md x Q t := by unfold AtK; rw [h]; exact k
theorem at_0 {t : Tg Q} (h : atI ds x = some d) (k : Q d (.o 0)) : AtK ds (.o 0) x Q t := at_ h k
theorem at_S {t : Tg Q} (h : atI ds x = some d) (k : Q d (.o m)) : AtK ds (.o (m + 1)) x Q t := at_ h k
theorem att_0 {t : Tg Q} (h : atI ds x = some d) (k : Q d (.o 0)) : AtT ds (.o m) x Q t := by unfold AtT; rw [h]; exact k
theorem att_ {t : Tg Q} (h : atI ds x = some d) (k : Q d (elt md d)) : AtT ds md x Q t := by unfold AtT; rw [h]; exact k
theorem ats_ {t : Tg Q} {c : Nat} (h : atI z.cps.toList x = some c) (k : Q (.str ⟨#[c]⟩) (.o 0)) : AtS z x Q t := by unfold AtS; rw [h]; exact k
def mdK (Q : QE) (d : PyData) (m : Md) : Prop := Q d m
theorem r_md_o : mdK Q d (.o m) = Q d (.o m) := rfl
theorem r_md_b : mdK Q d .b = Q d .b := rfl
def scK (Q : QE) (d : PyData) : Prop := Q d (scm d)
theorem r_scK_none : scK Q .none = Q .none (.o 0) := rfl
theorem r_scK_bool {k : Bool} : scK Q (.bool k) = Q (.bool k) (.o 0) := rfl
theorem r_scK_int : scK Q (.int x) = Q (.int x) (.o 0) := rfl
theorem r_scK_str : scK Q (.str s) = Q (.str s) (.o 0) := rfl
theorem r_scK_list : scK Q (.list ds) = Q (.list ds) .b := rfl
theorem r_scK_tuple : scK Q (.tuple ds) = Q (.tuple ds) .b := rfl
theorem at_b {t : Tg Q} (h : atI ds x = some d) (k : scK Q d) : AtK ds .b x Q t := by unfold AtK; rw [h]; exact k
theorem att_b {t : Tg Q} (h : atI ds x = some d) (k : scK Q d) : AtT ds .b x Q t := by unfold AtT; rw [h]; exact k
theorem atI_k {α : Type} (xs : List α) (k : Nat) : atI xs (k : Int) = xs[k]? := by
  unfold atI ixN
  rw [if_pos (by omega)]
  by_cases h : k < xs.length
  · rw [if_pos (by omega)]; rfl
  · rw [if_neg (by omega), List.getElem?_eq_none (by omega)]; rfl
theorem atI_0 {α : Type} {x : α} {xs : List α} : atI (x :: xs) 0 = some x := atI_k _ 0
theorem atI_1 {α : Type} {x y : α} {xs : List α} : atI (x :: y :: xs) 1 = some y := atI_k _ 1
theorem atI_2 {α : Type} {x y z : α} {xs : List α} : atI (x :: y :: z :: xs) 2 = some z := atI_k _ 2
theorem atI_3 {α : Type} {x y z w : α} {xs : List α} : atI (x :: y :: z :: w :: xs) 3 = some w := atI_k _ 3
theorem atI_4 {α : Type} {x y z w v : α} {xs : List α} : atI (x :: y :: z :: w :: v :: xs) 4 = some v := atI_k _ 4
theorem r_at0 {t : Tg Q} : AtK (d :: ds) (.o (m + 1)) 0 Q t = Q d (.o m) := by unfold AtK; rw [atI_0]; rfl
theorem r_atl0 {t : Tg Q} : AtK (d :: ds) (.o 0) 0 Q t = Q d (.o 0) := by unfold AtK; rw [atI_0]; rfl
theorem r_atb0 {t : Tg Q} : AtK (d :: ds) .b 0 Q t = scK Q d := by unfold AtK; rw [atI_0]; rfl
theorem r_atT0 {t : Tg Q} : AtT (d :: ds) (.o m) 0 Q t = Q d (.o 0) := by unfold AtT; rw [atI_0]; rfl
theorem r_atTb0 {t : Tg Q} : AtT (d :: ds) .b 0 Q t = scK Q d := by unfold AtT; rw [atI_0]; rfl
theorem r_atT1 {t : Tg Q} : AtT (d :: e :: ds) (.o m) 1 Q t = Q e (.o 0) := by unfold AtT; rw [atI_1]; rfl
theorem r_atTb1 {t : Tg Q} : AtT (d :: e :: ds) .b 1 Q t = scK Q e := by unfold AtT; rw [atI_1]; rfl
theorem r_atT2 {d2 : PyData} {t : Tg Q} : AtT (d :: e :: d2 :: ds) (.o m) 2 Q t = Q d2 (.o 0) := by unfold AtT; rw [atI_2]; rfl
theorem r_atTb2 {d2 : PyData} {t : Tg Q} : AtT (d :: e :: d2 :: ds) .b 2 Q t = scK Q d2 := by unfold AtT; rw [atI_2]; rfl
theorem r_atT3 {d2 d3 : PyData} {t : Tg Q} : AtT (d :: e :: d2 :: d3 :: ds) (.o m) 3 Q t = Q d3 (.o 0) := by unfold AtT; rw [atI_3]; rfl
theorem r_atT4 {d2 d3 d4 : PyData} {t : Tg Q} : AtT (d :: e :: d2 :: d3 :: d4 :: ds) (.o m) 4 Q t = Q d4 (.o 0) := by unfold AtT; rw [atI_4]; rfl
def slK (lo hi : WO) (st : AS) (Q : QE) (d : PyData) (m : Md) : Prop := lo st fun l => hi st fun h => aSl d m l h Q
theorem r_sl {lo hi : WO} : wSl u lo hi st Q = u st (slK lo hi st Q) := rfl
theorem r_slK {lo hi : WO} : slK lo hi st Q d md = lo st fun l => hi st fun h => aSl d md l h Q := rfl
theorem r_on {Q : Option Int → Prop} : wON st Q = Q none := rfl
def osK (Q : Option Int → Prop) (d : PyData) (_ : Md) : Prop := match d with
  | .int i => Q (some i)
  | _ => False
theorem r_os {Q : Option Int → Prop} : wOS u st Q = u st (osK Q) := rfl
theorem r_osK {Q : Option Int → Prop} : osK Q (.int x) md = Q (some x) := rfl
theorem r_aSlL {lo hi : Option Int} : aSl (.list ds) (.o m) lo hi Q = Q (.list (cut ds lo hi)) (.o 1) := rfl
theorem r_aSlLb {lo hi : Option Int} : aSl (.list ds) .b lo hi Q = JnK (ds.all sc) (.list (cut ds lo hi)) Q (tg Q) := rfl
theorem r_aSlT {lo hi : Option Int} : aSl (.tuple ds) (.o m) lo hi Q = Q (.tuple (cut ds lo hi)) (.o 0) := by simp [aSl, isO]
theorem r_aSlS {lo hi : Option Int} : aSl (.str z) md lo hi Q = (z.length ≤ sizeLine ∧ Q (.str (cutS z lo hi)) (.o 0)) := rfl
def revK (Q : QE) (d : PyData) (m : Md) : Prop := match d with
  | .list ds => Q (.list ds.reverse) (jn (okL ds m) true)
  | _ => False
theorem r_revL : wRevL u st Q = u st (revK Q) := rfl
theorem r_revK : revK Q (.list ds) (.o m) = Q (.list ds.reverse) (.o 1) := rfl
theorem r_revKb : revK Q (.list ds) .b = JnK (ds.all sc) (.list ds.reverse) Q (tg Q) := rfl
def lcK (m : Nat) (r : WL) (st : AS) (Q : List PyData → Prop) (d : PyData) (md : Md) : Prop := eOk m d md = true ∧ r st fun ds => Q (d :: ds)
theorem r_ln {Q : List PyData → Prop} : wLn st Q = Q [] := rfl
theorem r_lc {Q : List PyData → Prop} {f : WL} : wLc m u f st Q = u st (lcK m f st Q) := rfl
theorem r_lcK {Q : List PyData → Prop} {f : WL} : lcK m f st Q d md = (eOk m d md = true ∧ f st fun ds => Q (d :: ds)) := rfl
theorem r_lst {f : WL} : wLst m f st Q = f st fun ds => ds.length ≤ sizeLine ∧ Q (.list ds) (.o (m + 1)) := rfl
theorem r_tup {f : WL} : wTup f st Q = f st fun ds => ds.length ≤ sizeLine ∧ Q (.tuple ds) (.o 0) := rfl
theorem r_eOk0 : eOk 0 d (.o n) = true := rfl
theorem r_okK0 : okK d (.o n) = true := rfl
def setK (own : Bool) (i : Nat) (k : AS → Prop) (st : AS) (d : PyData) (md : Md) : Prop := match keepM own d md with
  | some m => putK st i (.val d (.o m)) k
  | none => False
theorem r_set {own : Bool} : wSet i own u D st = u st (setK own i D.nx st) := by
  unfold wSet
  refine congrArg _ (funext fun d => funext fun m => ?_)
  unfold setK
  cases keepM own d m with
  | some m => exact (putK_eq _ _ _ _).symm
  | none => simp
theorem r_setO {k : AS → Prop} : setK true i k st d (.o m) = putK st i (.val d (.o m)) k := rfl
theorem r_setN {k : AS → Prop} : setK false i k st d (.o m) = putK st i (.val d (.o 0)) k := rfl
theorem r_setb_none {own : Bool} {kk : AS → Prop} : setK own i kk st .none .b = putK st i (.val .none (.o 0)) kk := rfl
theorem r_setb_bool {own : Bool} {kk : AS → Prop} {k : Bool} : setK own i kk st (.bool k) .b = putK st i (.val (.bool k) (.o 0)) kk := rfl
theorem r_setb_int {own : Bool} {kk : AS → Prop} : setK own i kk st (.int x) .b = putK st i (.val (.int x) (.o 0)) kk := rfl
theorem r_setb_str {own : Bool} {kk : AS → Prop} : setK own i kk st (.str s) .b = putK st i (.val (.str s) (.o 0)) kk := rfl
theorem r_fz {k : AS → Prop} : wFz i a D st = a D (fzs st i) := rfl
def fzK (st : AS) (i : Nat) (k : AS → Prop) : Prop := k (fzs st i)
theorem r_fzK : wFz i a D st = fzK st i (a D) := rfl
theorem fzs_S : fzs (q :: r) (i + 1) = q :: fzs r i := by
  unfold fzs
  show (match slot r i with | .val d (.o (_ + 1)) => put (q :: r) (i + 1) (.val d (.o 0)) | _ => q :: r) = _
  split
  · rename_i h; first | rfl | (rw [h]; rfl)
  · rename_i h
    first
      | rfl
      | (split
         · rename_i d m h2; exact absurd h2 (h d m)
         · rfl)
theorem r_fz0 {k : AS → Prop} : fzK (.val d (.o (m + 1)) :: r) 0 k = k (.val d (.o 0) :: r) := rfl
theorem r_fz00 {k : AS → Prop} : fzK (.val d (.o 0) :: r) 0 k = k (.val d (.o 0) :: r) := rfl
theorem r_fzd {k : AS → Prop} : fzK (.dead :: r) 0 k = k (.dead :: r) := rfl
theorem r_fzS {k : AS → Prop} : fzK (q :: r) (i + 1) k = fzK r i fun r' => k (q :: r') := by unfold fzK; rw [fzs_S]
theorem r_drop : wDrop u D st = u st fun _ _ => D.nx st := rfl
def augK (own : AS) (i : Nat) (o : Op2) (u : WE) (k : AS → Prop) : AS → Nat → Prop := fun st j => match slot st j with
  | .val d1 m1 => u own fun d2 m2 => o d1 (rdm m1) d2 m2 fun d md => setK false i k own d md
  | _ => False
theorem r_aug {o : Op2} : wAug i o u D st = augK st i o u D.nx st i := by
  unfold wAug augK
  split
  · rename_i d1 m1 h
    try simp only [h]
    refine congrArg _ (funext fun d2 => funext fun m2 => ?_)
    have hl : i < st.length := slot_lt h
    rw [eq_true hl, true_and]
    refine congrArg _ (funext fun d => funext fun md => ?_)
    unfold setK
    cases keepM false d md with
    | some m => simp [putK_eq, hl]
    | none => rfl
  · rename_i h
    first
      | rfl
      | (split
         · rename_i d m h2; exact absurd h2 (h d m)
         · rfl)
theorem r_aug0 {o : Op2} {k : AS → Prop} : augK st i o u k (.val d (.o 0) :: r) 0 = u st fun d2 m2 => o d (.o 0) d2 m2 (setK false i k st) := rfl
theorem r_augS {o : Op2} {k : AS → Prop} : augK st i o u k (q :: r) (j + 1) = augK st i o u k r j := rfl
theorem r_iaddI : aIAdd (.int x) md (.int y) md' Q = Q (.int (x + y)) (.o 0) := rfl
theorem r_iaddS : aIAdd (.str s) md (.str z) md' Q = (s.length + z.length ≤ sizeLine ∧ Q (.str (s ++ z)) (.o 0)) := rfl
def appK (own : AS) (i : Nat) (u : WE) (k : AS → Prop) : AS → Nat → Prop := fun st j => match slot st j with
  | .val (.list ds) (.o (m + 1)) => u own fun d md => eOk m d md = true ∧ ds.length < sizeLine ∧ putK own i (.val (.list (ds ++ [d])) (.o (m + 1))) k
  | _ => False
theorem r_app : wApp i u D st = appK st i u D.nx st i := by
  unfold wApp appK
  split
  · rename_i ds m h
    have hl : i < st.length := slot_lt h
    simp only [h, putK_eq, eq_true hl, true_and] <;> rfl
  · rename_i h
    first
      | rfl
      | (split
         · rename_i ds m h2; exact absurd h2 (h ds m)
         · rfl)
theorem r_app0 {k : AS → Prop} : appK st i u k (.val (.list ds) (.o (m + 1)) :: r) 0 = u st fun d md => eOk m d md = true ∧ ds.length < sizeLine ∧ putK st i (.val (.list (ds ++ [d])) (.o (m + 1))) k := rfl
theorem r_appS {k : AS → Prop} : appK st i u k (q :: r) (j + 1) = appK st i u k r j := rfl
def satK (own : AS) (i : Nat) (jj : WE) (u : WE) (k : AS → Prop) : AS → Nat → Prop := fun st j => match slot st j with
  | .val (.list ds) (.o (m + 1)) => u own fun d md => jj own fun dj _ => match dj with
    | .int z => eOk m d md = true ∧ match ixN ds.length z with
      | some p => putK own i (.val (.list (ds.set p d)) (.o (m + 1))) k
      | none => False
    | _ => False
  | _ => False
theorem r_sat : wSetAt i v u D st = satK st i v u D.nx st i := by
  unfold wSetAt satK
  split
  · rename_i ds m h
    have hl : i < st.length := slot_lt h
    simp only [h, putK_eq, eq_true hl, true_and] <;> rfl
  · rename_i h
    first
      | rfl
      | (split
         · rename_i ds m h2; exact absurd h2 (h ds m)
         · rfl)
def SatP (own : AS) (i : Nat) (ds : List PyData) (m : Nat) (z : Int) (d : PyData) (k : AS → Prop) (_ : Tg k) : Prop := match ixN ds.length z with
      | some p => putK own i (.val (.list (ds.set p d)) (.o (m + 1))) k
      | none => False
def satI (own : AS) (i : Nat) (ds : List PyData) (m : Nat) (d : PyData) (md : Md) (k : AS → Prop) (dj : PyData) (_ : Md) : Prop := match dj with
    | .int z => eOk m d md = true ∧ SatP own i ds m z d k (tg k)
    | _ => False
theorem r_sat0 {k : AS → Prop} : satK st i v u k (.val (.list ds) (.o (m + 1)) :: r) 0 = u st fun d md => v st (satI st i ds m d md k) := rfl
theorem r_satI {k : AS → Prop} : satI st i ds m d md k (.int x) md' = (eOk m d md = true ∧ SatP st i ds m x d k (tg k)) := rfl
theorem r_satS {k : AS → Prop} : satK st i v u k (q :: r) (j + 1) = satK st i v u k r j := rfl
theorem sat_ {k : AS → Prop} {p : Nat} {t : Tg k} (h : ixN ds.length x = some p) (hk : putK st i (.val (.list (ds.set p d)) (.o (m + 1))) k) : SatP st i ds m x d k t := by unfold SatP; rw [h]; exact hk
def AugP (own : AS) (i : Nat) (ds : List PyData) (m : Nat) (z : Int) (o : Op2) (u : WE) (k : AS → Prop) (_ : Tg k) : Prop := match ixN ds.length z with
      | some p => match ds[p]? with
        | some d0 => u own fun d2 m2 => o d0 (scm d0) d2 m2 fun d md => eOk m d md = true ∧ putK own i (.val (.list (ds.set p d)) (.o (m + 1))) k
        | none => False
      | none => False
def augI (own : AS) (i : Nat) (ds : List PyData) (m : Nat) (o : Op2) (u : WE) (k : AS → Prop) (dj : PyData) (_ : Md) : Prop := match dj with
    | .int z => AugP own i ds m z o u k (tg k)
    | _ => False
def gatK (own : AS) (i : Nat) (jj : WE) (o : Op2) (u : WE) (k : AS → Prop) : AS → Nat → Prop := fun st j => match slot st j with
  | .val (.list ds) (.o (m + 1)) => jj own (augI own i ds m o u k)
  | _ => False
theorem r_gat {o : Op2} : wAugAt i v o u D st = gatK st i v o u D.nx st i := by
  unfold wAugAt gatK
  split
  · rename_i ds m h
    have hl : i < st.length := slot_lt h
    try simp only [h]
    refine congrArg _ (funext fun d => funext fun m2 => ?_)
    unfold augI AugP
    simp only [h, putK_eq, eq_true hl, true_and] <;> rfl
  · rename_i h
    first
      | rfl
      | (split
         · rename_i ds m h2; exact absurd h2 (h ds m)
         · rfl)
theorem r_gat0 {o : Op2} {k : AS → Prop} : gatK st i v o u k (.val (.list ds) (.o (m + 1)) :: r) 0 = v st (augI st i ds m o u k) := rfl
theorem r_gatS {o : Op2} {k : AS → Prop} : gatK st i v o u k (q :: r) (j + 1) = gatK st i v o u k r j := rfl
theorem r_augI {o : Op2} {k : AS → Prop} : augI st i ds m o u k (.int x) md' = AugP st i ds m x o u k (tg k) := rfl
theorem gat_ {o : Op2} {k : AS → Prop} {p : Nat} {t : Tg k} (h : ixN ds.length x = some p) (h2 : ds[p]? = some d) (hk : u st fun d2 m2 => o d (scm d) d2 m2 fun d md => eOk m d md = true ∧ putK st i (.val (.list (ds.set p d)) (.o (m + 1))) k) : AugP st i ds m x o u k t := by unfold AugP; rw [h]; simp only [h2]; exact hk
def avK (r : WA) (st : AS) (Q : List SV → Prop) (d : PyData) (md : Md) : Prop := r st fun as => Q (argv d md :: as)
theorem r_an {Q : List SV → Prop} : wAn st Q = Q [] := rfl
theorem r_av {f : WA} {Q : List SV → Prop} : wAv u f st Q = u st (avK f st Q) := rfl
theorem r_avO {f : WA} {Q : List SV → Prop} : avK f st Q d (.o m) = f st fun as => Q (.val d (.o 0) :: as) := rfl
theorem r_avb_none {f : WA} {Q : List SV → Prop} : avK f st Q .none .b = f st fun as => Q (.val .none (.o 0) :: as) := rfl
theorem r_avb_bool {f : WA} {Q : List SV → Prop} {k : Bool} : avK f st Q (.bool k) .b = f st fun as => Q (.val (.bool k) (.o 0) :: as) := rfl
theorem r_avb_int {f : WA} {Q : List SV → Prop} : avK f st Q (.int x) .b = f st fun as => Q (.val (.int x) (.o 0) :: as) := rfl
theorem r_avb_str {f : WA} {Q : List SV → Prop} : avK f st Q (.str s) .b = f st fun as => Q (.val (.str s) (.o 0) :: as) := rfl
theorem r_avb_list {f : WA} {Q : List SV → Prop} : avK f st Q (.list ds) .b = f st fun as => Q (.val (.list ds) .b :: as) := rfl
theorem r_avb_tuple {f : WA} {Q : List SV → Prop} : avK f st Q (.tuple ds) .b = f st fun as => Q (.val (.tuple ds) .b :: as) := rfl
def asK (own : AS) (f : WA) (Q : List SV → Prop) : AS → Nat → Prop := fun st i => match slot st i with
  | .scr ns => f own fun as => Q (.scr ns :: as)
  | _ => False
def abK (own : AS) (f : WA) (Q : List SV → Prop) : AS → Nat → Prop := fun st i => match slot st i with
  | .box => f own fun as => Q (.box :: as)
  | _ => False
theorem r_as {f : WA} {Q : List SV → Prop} : wAs i f st Q = asK st f Q st i := rfl
theorem r_as0 {ns : List Int} {f : WA} {Q : List SV → Prop} : asK st f Q (.scr ns :: r) 0 = f st fun as => Q (.scr ns :: as) := rfl
theorem r_asS {f : WA} {Q : List SV → Prop} : asK st f Q (q :: r) (i + 1) = asK st f Q r i := rfl
theorem r_ab {f : WA} {Q : List SV → Prop} : wAb i f st Q = abK st f Q st i := rfl
theorem r_ab0 {f : WA} {Q : List SV → Prop} : abK st f Q (.box :: r) 0 = f st fun as => Q (.box :: as) := rfl
theorem r_abS {f : WA} {Q : List SV → Prop} : abK st f Q (q :: r) (i + 1) = abK st f Q r i := rfl
def CallK (asp : ASp) (as : List SV) (Q : QE) (_ : Tg Q) : Prop := asp as Q
theorem Dn.weak {P : Program} {w : World} {K : PySem.W.Frag} {mg : Str → Option Value} {base : Heap} {k : Nat} {x : Str} {n : Nat} {asp asp' : ASp} (D : Dn P w K mg base k x n asp) (h : ∀ as Q, asp' as Q → asp as Q) : Dn P w K mg base k x n asp' := by
  obtain ⟨f, fd, ps, G, hm, hk, hb⟩ := D.ex
  have hs : ∀ vs H Q E, spOf K n asp' vs H Q E → spOf K n asp vs H Q E := fun vs H Q E ⟨h1, B, F, as, Qa, wf, p, ha, hq⟩ => ⟨h1, B, F, as, Qa, wf, p, h _ _ ha, hq⟩
  exact ⟨f, fd, ps, ⟨fun vs H Q E h => G.1 vs H Q E (hs _ _ _ _ h), fun A outer s H args us vs Q E hr e0 hb r h => G.2 A outer s H args us vs Q E hr e0 hb r (hs _ _ _ _ h)⟩, hm, hk, hb⟩
def ubK : List SV → (List SV → Prop) → Prop
  | [], k => k []
  | s :: r, k => ubK r fun as => k (unb s :: as)
theorem ubK_eq : ∀ (as : List SV) (k : List SV → Prop), ubK as k = k (as.map unb)
  | [], _ => rfl
  | _ :: r, k => ubK_eq r _
theorem r_ub0 {k : List SV → Prop} : ubK [] k = k [] := rfl
theorem r_ubV {k : List SV → Prop} : ubK (.val d (.o m) :: r) k = ubK r fun as => k (.val d (.o m) :: as) := rfl
theorem r_ubB {k : List SV → Prop} : ubK (.val d .b :: r) k = ubK r fun as => k (.val d (.o 0) :: as) := rfl
theorem r_ubX {k : List SV → Prop} : ubK (.box :: r) k = ubK r fun as => k (.box :: as) := rfl
theorem r_ubY {ns : List Int} {k : List SV → Prop} : ubK (.scr ns :: r) k = ubK r fun as => k (.scr ns :: as) := rfl
def clK (asp : ASp) (Q : QE) (all : List SV) : List SV → Prop
  | [] => CallK asp all Q (tg Q)
  | s :: r => match isB s with
    | true => ubK all fun as => CallK asp as (fun d _ => scK Q d) (tg _)
    | false => clK asp Q all r
theorem clK_eq {asp : ASp} {all : List SV} : ∀ as : List SV, clK asp Q all as = (match as.any isB with
    | false => asp all Q
    | true => asp (all.map unb) fun d _ => Q d (scm d))
  | [] => rfl
  | s :: r => by
    unfold clK
    rw [List.any_cons]
    cases isB s with
    | true => simp only [ubK_eq, Bool.true_or]; rfl
    | false => simp only [Bool.false_or]; exact clK_eq r
theorem r_call {asp : ASp} {f : WA} : wCall n asp f st Q = f st fun as => as.length = n ∧ clK asp Q as as := by
  unfold wCall
  refine congrArg _ (funext fun as => ?_)
  rw [clK_eq] <;> rfl
theorem r_cl0 {asp : ASp} {as : List SV} : clK asp Q as [] = CallK asp as Q (tg Q) := rfl
theorem r_clV {asp : ASp} {as : List SV} : clK asp Q as (.val d (.o m) :: r) = clK asp Q as r := rfl
theorem r_clB {asp : ASp} {as : List SV} : clK asp Q as (.val d .b :: r) = ubK as fun as => CallK asp as (fun d _ => scK Q d) (tg _) := rfl
theorem r_clX {asp : ASp} {as : List SV} : clK asp Q as (.box :: r) = clK asp Q as r := rfl
theorem r_clY {ns : List Int} {asp : ASp} {as : List SV} : clK asp Q as (.scr ns :: r) = clK asp Q as r := rfl
theorem r_draw {t : Tg Q} : CallK aspDraw [.box, .val (.int x) (.o 0)] Q t = (0 < x ∧ ∀ r : Int, 0 ≤ r → r < x → Q (.int r) (.o 0)) := by
  refine propext ⟨fun h => ?_, fun h => ⟨x, rfl, h⟩⟩
  obtain ⟨n, e, h⟩ := h
  injection e with _ e
  injection e with e _
  injection e with e _
  cases e
  exact h
theorem r_lenL : aLen (.list ds) md Q = Q (.int ds.length) (.o 0) := rfl
theorem r_lenT : aLen (.tuple ds) md Q = Q (.int ds.length) (.o 0) := rfl
theorem r_lenS : aLen (.str z) md Q = (z.length ≤ sizeLine ∧ Q (.int z.length) (.o 0)) := rfl
theorem r_int : aInt (.int x) md Q = Q (.int x) (.o 0) := rfl
theorem r_intB {k : Bool} : aInt (.bool k) md Q = Q (.int (if k then 1 else 0)) (.o 0) := rfl
theorem r_listL : aList (.list ds) (.o m) Q = Q (.list ds) (.o 1) := rfl
theorem r_listLb : aList (.list ds) .b Q = JnK (ds.all sc) (.list ds) Q (tg Q) := rfl
theorem r_listT : aList (.tuple ds) (.o m) Q = Q (.list ds) (.o 1) := by simp [aList, okL]
theorem r_tupL : aTuple (.list ds) (.o m) Q = Q (.tuple ds) (.o 0) := by simp [aTuple, okL]
theorem r_tupLb : aTuple (.list ds) .b Q = (ds.all sc = true ∧ Q (.tuple ds) (.o 0)) := rfl
theorem r_tupT : aTuple (.tuple ds) (.o m) Q = Q (.tuple ds) (.o 0) := by simp [aTuple, isO]
theorem r_sum : aSum (.list ds) md Q = ∃ ns : List Int, ds = ns.map .int ∧ Q (.int ns.sum) (.o 0) := rfl
theorem r_max : aMax (.list ds) md Q = ∃ ns : List Int, ds = ns.map .int ∧ ns ≠ [] ∧ Q (.int (maxI ns)) (.o 0) := rfl
theorem r_min : aMin (.list ds) md Q = ∃ ns : List Int, ds = ns.map .int ∧ ns ≠ [] ∧ Q (.int (minI ns)) (.o 0) := rfl
theorem r_any : aAny (.list ds) md Q = ∃ bs : List Bool, ds = bs.map .bool ∧ Q (.bool (bs.any id)) (.o 0) := rfl
theorem r_all : aAll (.list ds) md Q = ∃ bs : List Bool, ds = bs.map .bool ∧ Q (.bool (bs.all id)) (.o 0) := rfl
theorem r_abs : aAbs (.int x) md Q = Q (.int (if x < 0 then -x else x)) (.o 0) := rfl
theorem r_str : aStr (.int x) md Q = (x.natAbs < 2 ^ 1920 ∧ Q (.str (toString x)) (.o 0)) := rfl
theorem r_reprI : aRepr (.int x) md Q = (x.natAbs < 2 ^ 1920 ∧ Q (.str (toString x)) (.o 0)) := rfl
theorem r_reprS : aRepr (.str z) md Q = ((reprText z).length ≤ sizeLine ∧ Q (.str (reprText z)) (.o 0)) := rfl
def lenSK (Q : QE) : AS → Nat → Prop := fun st i => match slot st i with
  | .scr ns => ns.length ≤ sizeLine ∧ Q (.int ns.length) (.o 0)
  | _ => False
theorem r_lenScr : wLenS i st Q = lenSK Q st i := rfl
theorem r_lenScr0 {ns : List Int} : lenSK Q (.scr ns :: r) 0 = (ns.length ≤ sizeLine ∧ Q (.int ns.length) (.o 0)) := rfl
def atSK (u : WE) (own : AS) (Q : QE) : AS → Nat → Prop := fun st i => match slot st i with
  | .scr ns => u own fun d _ => match d with
    | .int k => match atI ns k with
      | some n => Q (.int n) (.o 0)
      | none => False
    | _ => False
  | _ => False
def atSI (ns : List Int) (Q : QE) (d : PyData) (_ : Md) : Prop := match d with
    | .int k => match atI ns k with
      | some n => Q (.int n) (.o 0)
      | none => False
    | _ => False
def AtZ (ns : List Int) (k : Int) (Q : QE) (_ : Tg Q) : Prop := match atI ns k with
      | some n => Q (.int n) (.o 0)
      | none => False
theorem r_atScr : wAtS i u st Q = atSK u st Q st i := rfl
theorem r_atScr0 {ns : List Int} : atSK u st Q (.scr ns :: r) 0 = u st (atSI ns Q) := rfl
theorem r_atSI {ns : List Int} : atSI ns Q (.int x) md = AtZ ns x Q (tg Q) := rfl
theorem atz_ {ns : List Int} {t : Tg Q} (h : atI ns x = some y) (k : Q (.int y) (.o 0)) : AtZ ns x Q t := by unfold AtZ; rw [h]; exact k
def chn3 (g' : Int → Int → Bool) (j : Int) (Q : QE) (d : PyData) (_ : Md) : Prop := match d with
  | .int k => Q (.bool (g' j k)) (.o 0)
  | _ => False
def chn2 (g g' : Int → Int → Bool) (w : WE) (st : AS) (Q : QE) (d1 : PyData) (d2 : PyData) (_ : Md) : Prop := match d1, d2 with
  | .int i, .int j => br (g i j) (w st (chn3 g' j Q)) (Q (.bool false) (.o 0))
  | _, _ => False
def chn1 (g g' : Int → Int → Bool) (v w : WE) (st : AS) (Q : QE) (d : PyData) (_ : Md) : Prop := v st (chn2 g g' w st Q d)
theorem r_chn {g g' : Int → Int → Bool} : wChn g g' u v w st Q = u st (chn1 g g' v w st Q) := by
  unfold wChn
  refine congrArg _ (funext fun d => funext fun m => ?_)
  unfold chn1
  refine congrArg _ (funext fun d2 => funext fun m2 => ?_)
  cases d <;> cases d2 <;> rfl
theorem r_chn1 {g g' : Int → Int → Bool} : chn1 g g' v w st Q d md = v st (chn2 g g' w st Q d) := rfl
theorem r_chn2 {g g' : Int → Int → Bool} : chn2 g g' w st Q (.int x) (.int y) md = br (g x y) (w st (chn3 g' y Q)) (Q (.bool false) (.o 0)) := rfl
theorem r_chn3 {g' : Int → Int → Bool} : chn3 g' x Q (.int y) md = Q (.bool (g' x y)) (.o 0) := rfl
theorem r_cLt : cLt x y = decide (x < y) := rfl
theorem r_cLe : cLe x y = decide (x ≤ y) := rfl
theorem r_cGt : cGt x y = decide (y < x) := rfl
theorem r_cGe : cGe x y = decide (y ≤ x) := rfl
theorem br_cLt {A B : Prop} : br (cLt x y) A B = ((x < y → A) ∧ (¬x < y → B)) := br_dec
theorem br_cLe {A B : Prop} : br (cLe x y) A B = ((x ≤ y → A) ∧ (¬x ≤ y → B)) := br_dec
theorem br_cGt {A B : Prop} : br (cGt x y) A B = ((y < x → A) ∧ (¬y < x → B)) := br_dec
theorem br_cGe {A B : Prop} : br (cGe x y) A B = ((y ≤ x → A) ∧ (¬y ≤ x → B)) := br_dec
def rgK (Q : Int → Int → Prop) (d : PyData) (_ : Md) : Prop := match d with
  | .int n => Q 0 n
  | _ => False
def rgK2 (Q : Int → Int → Prop) (d d2 : PyData) (_ : Md) : Prop := match d, d2 with
  | .int i, .int j => Q i j
  | _, _ => False
theorem r_R1 {Q : Int → Int → Prop} : wR1 u st Q = u st (rgK Q) := rfl
theorem r_rgK {Q : Int → Int → Prop} : rgK Q (.int x) md = Q 0 x := rfl
theorem r_R2 {Q : Int → Int → Prop} : wR2 u v st Q = u st fun d _ => v st (rgK2 Q d) := rfl
theorem r_rgK2 {Q : Int → Int → Prop} : rgK2 Q (.int x) (.int y) md = Q x y := rfl
theorem r_lstR {f : WR} : wLstR f st Q = f st fun a b => inB a ∧ inB b ∧ b - a ≤ 16777216 ∧ Q (.list (rgD a b)) (.o 1) := rfl
theorem r_tupR {f : WR} : wTupR f st Q = f st fun a b => inB a ∧ inB b ∧ b - a ≤ 16777216 ∧ Q (.tuple (rgD a b)) (.o 0) := rfl
abbrev QI := List PyData → Md → Prop
variable {QQ : QI}
def itK (Q : QI) (d : PyData) (m : Md) : Prop := match d with
  | .list ds => Q ds (itm m)
  | .tuple ds => Q ds (itm m)
  | .str z => Q (signs z) (.o 0)
  | _ => False
theorem r_iter : wIter u st QQ = u st (itK QQ) := rfl
theorem r_itL : itK QQ (.list ds) (.o m) = QQ ds (.o 0) := rfl
theorem r_itLb : itK QQ (.list ds) .b = QQ ds .b := rfl
theorem r_itT : itK QQ (.tuple ds) (.o m) = QQ ds (.o 0) := rfl
theorem r_itTb : itK QQ (.tuple ds) .b = QQ ds .b := rfl
theorem r_itS : itK QQ (.str z) md = QQ (signs z) (.o 0) := rfl
def rn1K (Q : QI) (d : PyData) (_ : Md) : Prop := match d with
  | .int j => inB j ∧ Q (rngs 0 1 j.toNat) (.o 0)
  | _ => False
theorem r_rng1 : wRng1 u st QQ = u st (rn1K QQ) := rfl
theorem r_rn1K : rn1K QQ (.int x) md = (inB x ∧ QQ (rngs 0 1 x.toNat) (.o 0)) := rfl
def rn2K (Q : QI) (d d2 : PyData) (_ : Md) : Prop := match d, d2 with
  | .int i, .int j => inB i ∧ inB j ∧ Q (rngs i 1 (j - i).toNat) (.o 0)
  | _, _ => False
theorem r_rng2 : wRng2 u v st QQ = u st fun d _ => v st (rn2K QQ d) := rfl
theorem r_rn2K : rn2K QQ (.int x) (.int y) md = (inB x ∧ inB y ∧ QQ (rngs x 1 (y - x).toNat) (.o 0)) := rfl
def rnDK (Q : QI) (d d2 : PyData) (_ : Md) : Prop := match d, d2 with
  | .int i, .int j => inB i ∧ inB j ∧ Q (rngs i (-1) (i - j).toNat) (.o 0)
  | _, _ => False
theorem r_rngD : wRngD u v st QQ = u st fun d _ => v st (rnDK QQ d) := rfl
theorem r_rnDK : rnDK QQ (.int x) (.int y) md = (inB x ∧ inB y ∧ QQ (rngs x (-1) (x - y).toNat) (.o 0)) := rfl
def enK (Q : QI) (d : PyData) (m : Md) : Prop := match d with
  | .list ds => Q (enumD 0 ds) (itm m)
  | _ => False
theorem r_enum : wEnum u st QQ = u st (enK QQ) := rfl
theorem r_enK : enK QQ (.list ds) (.o m) = QQ (enumD 0 ds) (.o 0) := rfl
theorem r_enKb : enK QQ (.list ds) .b = QQ (enumD 0 ds) .b := rfl
def zpK (Q : QI) (d : PyData) (m : Md) (d2 : PyData) (m2 : Md) : Prop := match d, d2 with
  | .list ds, .list es => Q (zipD ds es) (jnI m m2)
  | .tuple ds, .tuple es => Q (zipD ds es) (jnI m m2)
  | _, _ => False
theorem r_zip : wZip u v st QQ = u st fun d m => v st (zpK QQ d m) := rfl
theorem r_zpL : zpK QQ (.list ds) (.o m) (.list es) (.o n) = QQ (zipD ds es) (.o 0) := rfl
theorem r_zpLb : zpK QQ (.list ds) .b (.list es) md = QQ (zipD ds es) .b := rfl
theorem r_zpLc : zpK QQ (.list ds) (.o m) (.list es) .b = QQ (zipD ds es) .b := rfl
theorem r_zpT : zpK QQ (.tuple ds) (.o m) (.tuple es) (.o n) = QQ (zipD ds es) (.o 0) := rfl
def rvK (Q : QI) (d : PyData) (m : Md) : Prop := match d with
  | .list ds => Q ds.reverse (itm m)
  | .tuple ds => Q ds.reverse (itm m)
  | _ => False
theorem r_rev : wRev u st QQ = u st (rvK QQ) := rfl
theorem r_rvL : rvK QQ (.list ds) (.o m) = QQ ds.reverse (.o 0) := rfl
theorem r_rvLb : rvK QQ (.list ds) .b = QQ ds.reverse .b := rfl
theorem r_rvT : rvK QQ (.tuple ds) (.o m) = QQ ds.reverse (.o 0) := rfl
theorem r_revR {f : WR} : wRevR f st QQ = f st fun a b => inB a ∧ inB b ∧ QQ (rngs (a + ((b - a).toNat : Int) - 1) (-1) (b - a).toNat) (.o 0) := rfl
def nmK (i : Nat) (k : AS → Prop) (st : AS) (d : PyData) (m : Md) : Prop := putK st i (.val d (nrm d m)) k
theorem r_gNm {k : AS → Prop} : gNm i d md st k = nmK i k st d md := (putK_eq _ _ _ _).symm
theorem r_nmO {k : AS → Prop} : nmK i k st d (.o m) = putK st i (.val d (.o m)) k := rfl
theorem r_nmb_none {kk : AS → Prop} : nmK i kk st .none .b = putK st i (.val .none (.o 0)) kk := rfl
theorem r_nmb_bool {kk : AS → Prop} {k : Bool} : nmK i kk st (.bool k) .b = putK st i (.val (.bool k) (.o 0)) kk := rfl
theorem r_nmb_int {kk : AS → Prop} : nmK i kk st (.int x) .b = putK st i (.val (.int x) (.o 0)) kk := rfl
theorem r_nmb_str {kk : AS → Prop} : nmK i kk st (.str s) .b = putK st i (.val (.str s) (.o 0)) kk := rfl
theorem r_nmb_list {kk : AS → Prop} : nmK i kk st (.list ds) .b = putK st i (.val (.list ds) .b) kk := rfl
theorem r_nmb_tuple {kk : AS → Prop} : nmK i kk st (.tuple ds) .b = putK st i (.val (.tuple ds) .b) kk := rfl
theorem r_gTp {g : WGs} {k : AS → Prop} : gTp n g (.tuple ds) md st k = (ds.length = n ∧ g ds md st k) := rfl
theorem r_gNl {k : AS → Prop} : gNl [] md st k = k st := rfl
def csK (g : WG) (f : WGs) (k : AS → Prop) (st : AS) (ds : List PyData) (md0 : Md) (d : PyData) (md : Md) : Prop := g d md st fun st' => f ds md0 st' k
theorem r_gCsO {g : WG} {f : WGs} {k : AS → Prop} : gCs g f (d :: ds) (.o m) st k = g d (.o 0) st fun st' => f ds (.o m) st' k := rfl
theorem r_gCsB {g : WG} {f : WGs} {k : AS → Prop} : gCs g f (d :: ds) .b st k = scK (fun d m => g d m st fun st' => f ds .b st' k) d := rfl
theorem r_asg {g : WG} : wAsg g u D st = u st fun d md => okK d md = true ∧ g d (.o 0) st D.nx := rfl
def ForP (g : WG) (b : WS) (D : AEnds) (ds : List PyData) (st : AS) (_ : Tg D) : Prop := ∃ I : Nat → AS → Prop, I 0 st ∧
  (∀ i d st', ds[i]? = some d → I i st' → g d (.o 0) st' fun st2 => b { D with nx := I (i + 1), ct := I (i + 1), bk := D.nx } st2) ∧ ∀ st', I ds.length st' → D.nx st'
def forK (g : WG) (b : WS) (D : AEnds) (st : AS) (ds : List PyData) (md : Md) : Prop := md = .o 0 ∧ ForP g b D ds st (tg D)
theorem r_for {wi : WI} {g : WG} : wFor wi g b D st = wi st (forK g b D st) := rfl
theorem r_forK {g : WG} : forK g b D st ds (.o 0) = ForP g b D ds st (tg D) := by unfold forK; simp
theorem for_ {g : WG} {t : Tg D} (I : Nat → AS → Prop) (h0 : I 0 st) (hs : ∀ i d st', ds[i]? = some d → I i st' → g d (.o 0) st' (b { D with nx := I (i + 1), ct := I (i + 1), bk := D.nx })) (he : ∀ st', I ds.length st' → D.nx st') : ForP g b D ds st t := ⟨I, h0, hs, he⟩
theorem for_map {α : Type} {f : α → PyData} {xs : List α} {g : WG} {t : Tg D} (I : Nat → AS → Prop) (h0 : I 0 st) (hs : ∀ i x st', xs[i]? = some x → I i st' → g (f x) (.o 0) st' (b { D with nx := I (i + 1), ct := I (i + 1), bk := D.nx })) (he : ∀ st', I xs.length st' → D.nx st') : ForP g b D (xs.map f) st t := by
  refine ⟨I, h0, fun i d st' h hI => ?_, fun st' h => he st' (by rwa [List.length_map] at h)⟩
  rw [List.getElem?_map] at h
  cases q : xs[i]? with
  | none => rw [q] at h; cases h
  | some x => rw [q] at h; cases h; exact hs i x st' q hI
theorem for_rng {lo c : Int} {g : WG} {t : Tg D} (I : Nat → AS → Prop) (h0 : I 0 st) (hs : ∀ (i : Nat) st', i < n → I i st' → g (.int (lo + (i : Nat) * c)) (.o 0) st' (b { D with nx := I (i + 1), ct := I (i + 1), bk := D.nx })) (he : ∀ st', I n st' → D.nx st') : ForP g b D (rngs lo c n) st t :=
  for_map (f := fun i : Nat => .int (lo + (i : Nat) * c)) I h0 (fun i x st' h hI => by
    obtain ⟨h1, h2⟩ := List.getElem?_eq_some_iff.mp h
    rw [List.length_range] at h1
    rw [List.getElem_range] at h2
    subst h2
    exact hs i st' h1 hI) (fun st' h => he st' (by rwa [List.length_range] at h))
theorem for_r1 {g : WG} {t : Tg D} (I : Nat → AS → Prop) (h0 : I 0 st) (hs : ∀ (i : Nat) st', i < n → I i st' → g (.int (i : Nat)) (.o 0) st' (b { D with nx := I (i + 1), ct := I (i + 1), bk := D.nx })) (he : ∀ st', I n st' → D.nx st') : ForP g b D (rngs 0 1 n) st t :=
  for_rng I h0 (fun i st' hi hI => by have := hs i st' hi hI; rwa [show (0 : Int) + (i : Int) * 1 = i by omega]) he
def WhlP (c : WT) (b : WS) (D : AEnds) (st : AS) (_ : Tg D) : Prop := wWhile c b D st
theorem r_whl : wWhile c b D st = WhlP c b D st (tg D) := rfl
theorem whl_ {t : Tg D} (I : Nat → AS → Prop) (k : Nat) (h0 : I k st) (hs : ∀ m st', I m st' → c st' fun k => br k (b { D with nx := fun s => ∃ m', m' < m ∧ I m' s, ct := fun s => ∃ m', m' < m ∧ I m' s, bk := D.nx } st') (D.nx st')) : WhlP c b D st t := by
  refine ⟨I, ⟨k, h0⟩, fun m st' h => ?_⟩
  have := hs m st' h
  have e : (fun k => br k (b { D with nx := fun s => ∃ m', m' < m ∧ I m' s, ct := fun s => ∃ m', m' < m ∧ I m' s, bk := D.nx } st') (D.nx st')) = fun k => match k with
    | true => b { D with nx := fun s => ∃ m', m' < m ∧ I m' s, ct := fun s => ∃ m', m' < m ∧ I m' s, bk := D.nx } st'
    | false => D.nx st' := funext fun k => by cases k <;> rfl
  rwa [e] at this
def wipK : List Nat → AS → (AS → Prop) → Prop
  | [], st, k => k st
  | v :: vs, st, k => wipK vs st fun s => putK s v .dead k
theorem wipK_eq : ∀ (vs : List Nat) (st : AS) (k : AS → Prop), wipK vs st k → k (wipeS st vs)
  | [], _, _, h => h
  | v :: vs, st, k, h => by
    have := wipK_eq vs st _ h
    rw [putK_eq] at this
    exact this.2
theorem r_wip0 {k : AS → Prop} : wipK [] st k = k st := rfl
theorem r_wipS {vs : List Nat} {k : AS → Prop} : wipK (i :: vs) st k = wipK vs st fun s => putK s i .dead k := rfl
def CmpP (kd : Option Nat) (vs : List Nat) (g : WG) (c : WT) (u : WE) (st : AS) (P : List PyData → Prop) (ds : List PyData) (md : Md) (_ : Tg P) : Prop := ∃ I : Nat → List PyData → Prop, I 0 [] ∧
  (∀ i d acc, ds[i]? = some d → I i acc → g d (itm md) (wipeS st vs) fun st2 => c st2 fun k => match k with
    | true => u st2 fun r mr => eAcc kd r mr = true ∧ acc.length < sizeLine ∧ I (i + 1) (acc ++ [r])
    | false => I (i + 1) acc) ∧
  ∀ acc, I ds.length acc → P acc
def cmpK (kd : Option Nat) (vs : List Nat) (g : WG) (c : WT) (u : WE) (st : AS) (P : List PyData → Prop) (ds : List PyData) (md : Md) : Prop := CmpP kd vs g c u st P ds md (tg P)
theorem r_comp {vs : List Nat} {wi : WI} {g : WG} : wComp m vs wi g c u st Q = wi st (cmpK (some m) vs g c u st fun acc => Q (.list acc) (.o (m + 1))) := rfl
theorem r_compN {vs : List Nat} {wi : WI} {g : WG} : wCompLen vs wi g c u st Q = wi st (cmpK none vs g c u st fun acc => Q (.int acc.length) (.o 0)) := rfl
theorem r_cmpK {kd : Option Nat} {vs : List Nat} {g : WG} {P : List PyData → Prop} : cmpK kd vs g c u st P ds md = CmpP kd vs g c u st P ds md (tg P) := rfl
theorem cmp_flt {α : Type} {f0 : α → PyData} {xs : List α} {vs : List Nat} {kd : Option Nat} {g : WG} {P : List PyData → Prop} {t : Tg P} (p : α → Bool) (f : α → PyData) (hl : xs.length ≤ sizeLine)
    (hs : ∀ x ∈ xs, wipK vs st fun s => g (f0 x) (itm md) s fun st2 => c st2 fun k => br k (u st2 fun r mr => eAcc kd r mr = true ∧ p x = true ∧ r = f x) (p x = false)) (hq : P ((xs.filter p).map f)) : CmpP kd vs g c u st P (xs.map f0) md t := by
  refine ⟨fun i acc => acc = ((xs.take i).filter p).map f, by simp, fun i d acc h hI => ?_, fun acc h => ?_⟩
  · rw [List.getElem?_map] at h
    cases q : xs[i]? with
    | none => rw [q] at h; cases h
    | some x =>
      rw [q] at h
      cases h
      obtain ⟨hi, hx⟩ := List.getElem?_eq_some_iff.mp q
      have h1 := wipK_eq _ _ _ (hs x (List.mem_of_getElem? q))
      have ht : xs.take (i + 1) = xs.take i ++ [x] := by rw [List.take_succ, q]; rfl
      have hlen : acc.length < sizeLine := by
        rw [hI, List.length_map]
        have := List.length_filter_le p (xs.take i)
        rw [List.length_take] at this
        omega
      refine cast ?_ h1
      refine congrArg _ (funext fun st2 => congrArg _ (funext fun k => ?_))
      cases k with
      | true =>
        show u st2 _ = u st2 _
        refine congrArg _ (funext fun r => funext fun mr => ?_)
        refine propext (and_congr_right fun _ => ?_)
        show _ ↔ (acc.length < sizeLine ∧ acc ++ [r] = ((xs.take (i + 1)).filter p).map f)
        rw [eq_true hlen, true_and, ht, List.filter_append, List.map_append, ← hI]
        cases hp : p x with
        | true => simp [hp]
        | false => simp [hp]
      | false =>
        show (p x = false) = (acc = ((xs.take (i + 1)).filter p).map f)
        rw [ht, List.filter_append, List.map_append, ← hI]
        cases hp : p x with
        | true => simp [hp]
        | false => simp [hp]
  · rw [List.length_map, List.take_of_length_le (Nat.le_refl _)] at h
    rw [h]; exact hq
theorem cmp_map {α : Type} {f0 : α → PyData} {xs : List α} {vs : List Nat} {kd : Option Nat} {g : WG} {P : List PyData → Prop} {t : Tg P} (f : α → PyData) (hl : xs.length ≤ sizeLine)
    (hs : ∀ x ∈ xs, wipK vs st fun s => g (f0 x) (itm md) s fun st2 => c st2 fun k => br k (u st2 fun r mr => eAcc kd r mr = true ∧ true = true ∧ r = f x) (true = false)) (hq : P (xs.map f)) : CmpP kd vs g c u st P (xs.map f0) md t :=
  cmp_flt (fun _ => true) f hl hs (by rwa [List.filter_eq_self.mpr fun _ _ => rfl])
theorem cmp_d {vs : List Nat} {kd : Option Nat} {g : WG} {P : List PyData → Prop} {t : Tg P} (f : PyData → PyData) (hl : ds.length ≤ sizeLine)
    (hs : ∀ x ∈ ds, wipK vs st fun s => g x (itm md) s fun st2 => c st2 fun k => br k (u st2 fun r mr => eAcc kd r mr = true ∧ true = true ∧ r = f x) (true = false)) (hq : P (ds.map f)) : CmpP kd vs g c u st P ds md t := by
  have := cmp_map (f0 := id) (xs := ds) (t := t) f hl hs hq
  rwa [List.map_id] at this
theorem cmp_dflt {vs : List Nat} {kd : Option Nat} {g : WG} {P : List PyData → Prop} {t : Tg P} (p : PyData → Bool) (f : PyData → PyData) (hl : ds.length ≤ sizeLine)
    (hs : ∀ x ∈ ds, wipK vs st fun s => g x (itm md) s fun st2 => c st2 fun k => br k (u st2 fun r mr => eAcc kd r mr = true ∧ p x = true ∧ r = f x) (p x = false)) (hq : P ((ds.filter p).map f)) : CmpP kd vs g c u st P ds md t := by
  have := cmp_flt (f0 := id) (xs := ds) (t := t) p f hl hs hq
  rwa [List.map_id] at this
theorem cmp_rng {lo cc : Int} {vs : List Nat} {kd : Option Nat} {g : WG} {P : List PyData → Prop} {t : Tg P} (f : Nat → PyData) (hl : n ≤ sizeLine)
    (hs : ∀ i, i < n → wipK vs st fun s => g (.int (lo + (i : Nat) * cc)) (itm md) s fun st2 => c st2 fun k => br k (u st2 fun r mr => eAcc kd r mr = true ∧ true = true ∧ r = f i) (true = false)) (hq : P ((List.range n).map f)) : CmpP kd vs g c u st P (rngs lo cc n) md t :=
  cmp_map (f0 := fun i : Nat => .int (lo + (i : Nat) * cc)) (xs := List.range n) f (by rwa [List.length_range]) (fun x hx => hs x (List.mem_range.mp hx)) hq
theorem cmp_r1 {vs : List Nat} {kd : Option Nat} {g : WG} {P : List PyData → Prop} {t : Tg P} (f : Nat → PyData) (hl : n ≤ sizeLine)
    (hs : ∀ i : Nat, i < n → wipK vs st fun s => g (.int (i : Nat)) (itm md) s fun st2 => c st2 fun k => br k (u st2 fun r mr => eAcc kd r mr = true ∧ true = true ∧ r = f i) (true = false)) (hq : P ((List.range n).map f)) : CmpP kd vs g c u st P (rngs 0 1 n) md t :=
  cmp_rng f hl (fun i hi => by have := hs i hi; rwa [show (0 : Int) + (i : Int) * 1 = i by omega]) hq
theorem r_itmO : itm (.o m) = .o 0 := rfl
theorem r_itmB : itm .b = .b := rfl
theorem r_eAccS : eAcc (some m) d md = eOk m d md := rfl
theorem r_eAccN : eAcc none d md = true := rfl
end
end AL

namespace AL
open PySem PySem.Spec PyProof.Rows L2

def sortD (ds : List PyData) : List PyData := ds.mergeSort (PySem.W.dataLe false id)
mutual
theorem nod_self : ∀ d : PyData, PySem.W.alike d d = true → nod d = true
  | .none, _ => rfl
  | .bool _, _ => rfl
  | .int _, _ => rfl
  | .str _, _ => rfl
  | .list xs, h => by rw [nod]; exact nodAll_self xs (by simpa [PySem.W.alike] using h)
  | .tuple xs, h => by rw [nod]; exact nodAll_self xs (by simpa [PySem.W.alike] using h)
  | .dict _, h => by simp [PySem.W.alike] at h
theorem nodAll_self : ∀ ds : List PyData, PySem.W.alikeAll ds ds = true → nodAll ds = true
  | [], _ => rfl
  | x :: r, h => by
    rw [PySem.W.alikeAll, Bool.and_eq_true] at h
    rw [nodAll, nod_self x h.1, nodAll_self r h.2]
    rfl
end
def SortOk (ds : List PyData) : Prop := PySem.W.AllAlike ds ∧ PySem.W.Sortable ds ∧ ∀ d ∈ ds, d.depth ≤ 60
def aSorted : Fn1 := fun d m Q => match d with
  | .list ds => SortOk ds ∧ Q (.list (sortD ds)) (jn (okL ds m) true)
  | _ => False
def sortV (xs : List V) (ds : List PyData) : List V := ((xs.zip ds).mergeSort (PySem.W.dataLe false Prod.snd)).map Prod.fst
def rSortD (K : PySem.W.Frag) : List V → Hp → VK → Prop := fun vs H Q => ∃ (a : Addr) (xs : List V) (ds : List PyData), vs = [V.ref a] ∧ SqL K H a xs ∧ DpAll K H xs ds ∧ SortOk ds ∧
  ∀ p, H p = none → Q (.ref p) (upd H p (.lst (sortV xs ds)))
theorem each_zip {pd : V → PyData → Prop} : ∀ {xs : List V} {ds : List PyData} {us : List Value}, xs.length = ds.length → Vals xs us → PySem.W.EachIs (fun u (b : V × PyData) => RelV b.1 u) us (xs.zip ds)
  | [], [], _, _, h => by cases h; exact .nil
  | _ :: _, [], _, h, _ => by simp at h
  | [], _ :: _, _, h, _ => by simp at h
  | x :: xs, d :: ds, _, hl, h => by
    cases h with
    | cons h1 h2 => exact .cons h1 (each_zip (pd := pd) (by simpa using hl) h2)
theorem zip_snd : ∀ {xs : List V} {ds : List PyData}, xs.length = ds.length → (xs.zip ds).map Prod.snd = ds
  | [], [], _ => rfl
  | _ :: _, [], h => by simp at h
  | [], _ :: _, h => by simp at h
  | x :: xs, d :: ds, h => by rw [List.zip_cons_cons, List.map_cons, zip_snd (by simpa using h)]
theorem each_vals : ∀ {us : List Value} {bs : List (V × PyData)}, PySem.W.EachIs (fun u (b : V × PyData) => RelV b.1 u) us bs → Vals (bs.map Prod.fst) us
  | _, _, .nil => .nil
  | _, _, .cons h t => .cons h (each_vals t)
theorem readsAll_zip {h : Heap} : ∀ {us : List Value} {xs : List V} {ds : List PyData} {as : List Addr}, xs.length = ds.length → ReadsAll h us ds as → PySem.W.EachIs (fun v (b : V × PyData) => ∃ as, Reads h v b.2 as) us (xs.zip ds)
  | us, [], [], _, _, h => by cases h; exact .nil
  | _, _ :: _, [], _, h, _ => by simp at h
  | _, [], _ :: _, _, h, _ => by simp at h
  | _, x :: xs, d :: ds, _, hl, h => by
    cases h with
    | cons h1 h2 => exact .cons ⟨_, h1⟩ (readsAll_zip (by simpa using hl) h2)
theorem dpAll_len {K : PySem.W.Frag} {H : Hp} : ∀ {xs : List V} {ds : List PyData}, DpAll K H xs ds → xs.length = ds.length
  | _, _, .nil => rfl
  | _, _, .cons _ t => congrArg (· + 1) (dpAll_len t)
section
variable {X : Cx}
theorem cr_sortD (hu : X.A.units + 65 < cLine) : CallR X (.builtin "sorted") (rSortD X.K) := by
  intro pins s σ H vs us Q I r h
  obtain ⟨a, xs, ds, rfl, hs, hd, ⟨ha, hk, hdp⟩, q⟩ := h
  obtain ⟨its, rv, hl, hz⟩ := I.list hs
  obtain ⟨u, rfl, ru⟩ := vals1 r
  obtain rfl : u = Value.ref a := ru
  have hl0 := dpAll_len hd
  obtain ⟨as, hr⟩ := Dp.readsAll I ds xs its hd rv
  have hsn : (xs.zip ds).map Prod.snd = ds := zip_snd hl0
  refine PySem.W.sorted_data (R := fun u (b : V × PyData) => RelV b.1 u) (enc := Prod.snd) (bs := xs.zip ds) hl.isList (each_zip (pd := fun _ _ => True) hl0 rv) (readsAll_zip hl0 hr) (by rw [hsn]; exact ha) (by rw [hsn]; exact hk) (by rw [List.length_zip]; omega) (fun b hb => ?_) fun out ho eo => ?_
  · have : b.2 ∈ ds := by rw [← hsn]; exact List.mem_map.mpr ⟨b, hb, rfl⟩
    have := hdp _ this
    omega
  · obtain ⟨c, hc⟩ := PyProof.Rows.sortedAll_at s.heap its (List.toArray out)
    have hlen : (sortV xs ds).length ≤ sizeLine := by
      unfold sortV
      rw [List.length_map, List.length_mergeSort, List.length_zip]
      omega
    refine ⟨.ref (s.heap.objs.size + 1), upd H (s.heap.objs.size + 1) (.lst (sortV xs ds)), I.laid (t' := s.toks) (fun b o => PyProof.Rows.sortedAll_old) (Nat.le_succ _) ⟨hlen, out, c, each_vals eo, hc⟩, rfl, q _ (I.hok.fresh (Nat.le_succ _))⟩
theorem rpAll_zip {K : PySem.W.Frag} {H : Hp} : ∀ {bs : List (V × PyData)}, (∀ b ∈ bs, Rp K H b.1 b.2) → RpAll K H (bs.map Prod.fst) (bs.map Prod.snd)
  | [], _ => .nil
  | b :: bs, h => .cons (h b (List.mem_cons_self ..)) (rpAll_zip fun c hc => h c (List.mem_cons_of_mem _ hc))
theorem rpAll_mem {K : PySem.W.Frag} {H : Hp} : ∀ {vs : List V} {ds : List PyData}, RpAll K H vs ds → ∀ b ∈ vs.zip ds, Rp K H b.1 b.2
  | _, _, .nil, _, h => by simp at h
  | _, _, .cons h t, b, hb => by
    rw [List.zip_cons_cons, List.mem_cons] at hb
    rcases hb with rfl | hb
    · exact h
    · exact rpAll_mem t b hb
theorem sortV_rp {K : PySem.W.Frag} {H : Hp} {vs : List V} {ds : List PyData} (h : RpAll K H vs ds) : RpAll K H (sortV vs ds) (sortD ds) := by
  have e : sortD ds = ((vs.zip ds).mergeSort (PySem.W.dataLe false Prod.snd)).map Prod.snd := by
    rw [List.map_mergeSort (r := PySem.W.dataLe false Prod.snd) (s := PySem.W.dataLe false id) fun a _ b _ => rfl, zip_snd (rpAll_len h)]
    rfl
  rw [e]
  exact rpAll_zip fun b hb => rpAll_mem h b ((List.mergeSort_perm _ _).mem_iff.mp hb)
theorem ca_sortD : CallA X (rSortD X.K) aSorted := by
  intro B Fs Hs F H x d m f Q Q' ex r1 n1 hw k
  unfold aSorted at hw
  split at hw
  · rename_i ds
    obtain ⟨ok, hw⟩ := hw
    by_cases c1 : okL ds m = true
    · obtain ⟨a, vs, e1, h1, ex1, s1, q1⟩ := r1.items c1 ex n1
      refine ⟨a, vs, ds, by rw [e1], SqL.of h1, RpAll.dp ds _ (rpAll_mono ex1.wf.fh ds _ q1) (nodAll_of fun d hd => nod_self d (ok.1 d hd d hd)), ok, fun l nl => ?_⟩
      obtain ⟨y1, y2, y3⟩ := newL ex1 nl (sortV_rp q1)
      rw [c1] at hw
      exact k _ _ _ _ _ _ y1 y2 y3 hw
    · obtain ⟨a, vs, e1, h1, _, q1⟩ := r1.list ex.wf
      refine ⟨a, vs, ds, by rw [e1], SqL.of h1, RpAll.dp ds _ (rpAll_mono era_sub ds _ q1) (nodAll_of fun d hd => nod_self d (ok.1 d hd d hd)), ok, fun l nl => ?_⟩
      obtain ⟨y1, y2, y3⟩ := newLb ex nl (sortV_rp q1)
      rw [show jn (okL ds m) true = .b by simp [jn, c1]] at hw
      exact k _ _ _ _ _ _ y1 y2 y3 hw
  · exact hw.elim
theorem te_sorted {e : Expr} {u : WE} {p pos : Pos} (hu : X.A.units + 65 < cLine) (h : TrE X e u) (hg : Gl X "sorted") (hm : X.mg "sorted" = none) (hst : starEach [e] X.env = (false, eval e X.env) :: starEach [] X.env := by rfl) : TrE X (.Call (.Name "sorted" p) [e] [] pos) (w1 aSorted u) :=
  te_c1 (fun q => pe_callB (cr_sortD hu) hg hm (by decide +kernel) q (by decide) (by decide) hst rfl) ca_sortD h hst
end
theorem r_sortL {ds : List PyData} {m : Nat} {Q : QE} : aSorted (.list ds) (.o m) Q = (SortOk ds ∧ Q (.list (sortD ds)) (.o 1)) := rfl
theorem r_sortLb {ds : List PyData} {Q : QE} : aSorted (.list ds) .b Q = (SortOk ds ∧ JnK (ds.all sc) (.list (sortD ds)) Q (tg Q)) := rfl
end AL

namespace AL
open PySem PySem.Spec PyProof.Rows L2

mutual
def nbd : PyData → Bool
  | .none => true
  | .int _ => true
  | .str _ => true
  | .list xs => nbdAll xs
  | .tuple xs => nbdAll xs
  | _ => false
def nbdAll : List PyData → Bool
  | [] => true
  | x :: xs => nbd x && nbdAll xs
end
theorem nbdAll_iff : ∀ {xs : List PyData}, nbdAll xs = true ↔ ∀ x ∈ xs, nbd x = true
  | [] => by simp [nbdAll]
  | x :: xs => by rw [nbdAll, Bool.and_eq_true, nbdAll_iff]; simp
mutual
theorem eqv_nbd : ∀ (a b : PyData), nbd a = true → nbd b = true → (PyData.eqv a b = true ↔ a = b)
  | .none, b, _, h => by cases b <;> simp_all [PyData.eqv, nbd]
  | .int i, b, _, h => by cases b <;> simp_all [PyData.eqv, nbd]
  | .str i, b, _, h => by cases b <;> simp_all [PyData.eqv, nbd]
  | .bool _, _, h, _ => by simp [nbd] at h
  | .dict _, _, h, _ => by simp [nbd] at h
  | .list xs, b, h, h2 => by
    cases b with
    | list ys =>
      have := eqvAll_nbd xs ys (by simpa [nbd] using h) (by simpa [nbd] using h2)
      simpa [PyData.eqv] using this
    | _ => simp_all [PyData.eqv, nbd]
  | .tuple xs, b, h, h2 => by
    cases b with
    | tuple ys =>
      have := eqvAll_nbd xs ys (by simpa [nbd] using h) (by simpa [nbd] using h2)
      simpa [PyData.eqv] using this
    | _ => simp_all [PyData.eqv, nbd]
theorem eqvAll_nbd : ∀ (a b : List PyData), nbdAll a = true → nbdAll b = true → (PyData.eqvAll a b = true ↔ a = b)
  | [], [], _, _ => by simp [PyData.eqvAll]
  | [], _ :: _, _, _ => by simp [PyData.eqvAll]
  | _ :: _, [], _, _ => by simp [PyData.eqvAll]
  | x :: xs, y :: ys, h, h2 => by
    rw [nbdAll, Bool.and_eq_true] at h h2
    rw [PyData.eqvAll, Bool.and_eq_true, eqv_nbd x y h.1 h2.1, eqvAll_nbd xs ys h.2 h2.2]
    simp
end
theorem dEq_nbd {a b : PyData} (h : nbd a = true) (h2 : nbd b = true) : dEq a b = true ↔ a = b := by
  rw [dEq_eqv]; exact eqv_nbd a b h h2
theorem br_iff {c : Bool} {p A B : Prop} (h : c = true ↔ p) (k : (p → A) ∧ (¬p → B)) : br c A B := by
  cases c with
  | true => exact k.1 (h.mp rfl)
  | false => exact k.2 fun hp => by simpa using h.mpr hp
def Shp (n : Nat) (d : PyData) : Prop := d.canLay0 = true ∧ d.depth ≤ n
theorem Shp.none {n : Nat} : Shp n .none := ⟨by simp [PyData.canLay0], by simp [PyData.depth]⟩
theorem Shp.int {n : Nat} {i : Int} : Shp n (.int i) := ⟨by simp [PyData.canLay0], by simp [PyData.depth]⟩
theorem Shp.bool {n : Nat} {i : Bool} : Shp n (.bool i) := ⟨by simp [PyData.canLay0], by simp [PyData.depth]⟩
theorem Shp.str {n : Nat} {z : Str} (h : PyData.strOk z = true) : Shp n (.str z) := ⟨by simpa [PyData.canLay0] using h, by simp [PyData.depth]⟩
theorem Shp.all {n : Nat} : ∀ {ds : List PyData}, (∀ d ∈ ds, Shp n d) → PyData.canLayAll0 ds = true ∧ PyData.depthAll ds ≤ n
  | [], _ => ⟨by simp [PyData.canLayAll0], by simp [PyData.depthAll]⟩
  | d :: ds, h => by
    have h1 := h d (List.mem_cons_self ..)
    have h2 := Shp.all fun e he => h e (List.mem_cons_of_mem _ he)
    exact ⟨by rw [PyData.canLayAll0, h1.1, h2.1]; rfl, by rw [PyData.depthAll]; exact Nat.max_le.mpr ⟨h1.2, h2.2⟩⟩
theorem Shp.list {n : Nat} {ds : List PyData} (h : ∀ d ∈ ds, Shp n d) : Shp (n + 1) (.list ds) := by
  obtain ⟨h1, h2⟩ := Shp.all h
  exact ⟨by rw [PyData.canLay0]; exact h1, by rw [PyData.depth]; omega⟩
theorem Shp.tuple {n : Nat} {ds : List PyData} (h : ∀ d ∈ ds, Shp n d) : Shp (n + 1) (.tuple ds) := by
  obtain ⟨h1, h2⟩ := Shp.all h
  exact ⟨by rw [PyData.canLay0]; exact h1, by rw [PyData.depth]; omega⟩
theorem Shp.ok {d : PyData} (h : Shp 64 d) : SeqAt.shaped d = true := by
  unfold SeqAt.shaped
  rw [h.1, decide_eq_true h.2]
  rfl
theorem Shp.mono {n m : Nat} {d : PyData} (h : Shp n d) (l : n ≤ m) : Shp m d := ⟨h.1, Nat.le_trans h.2 l⟩
theorem dEqOk_of {a b : PyData} (h : Shp 64 a) (h2 : Shp 64 b) : dEqOk a b = true := by
  unfold dEqOk
  split <;> first | rfl | rw [h.ok, h2.ok]; rfl
theorem dInOkL {d : PyData} {ds : List PyData} (h : Shp 63 d) (h2 : ∀ e ∈ ds, Shp 63 e) : dInOk d (.list ds) = true := by
  show (SeqAt.shaped d && SeqAt.shaped (.list ds)) = true
  rw [(h.mono (by decide)).ok, (Shp.list h2).ok]
  rfl
theorem dInOkT {d : PyData} {ds : List PyData} (h : Shp 63 d) (h2 : ∀ e ∈ ds, Shp 63 e) : dInOk d (.tuple ds) = true := by
  show (SeqAt.shaped d && SeqAt.shaped (.tuple ds)) = true
  rw [(h.mono (by decide)).ok, (Shp.tuple h2).ok]
  rfl
theorem dInL {d : PyData} {ds : List PyData} (h : nbd d = true) (h2 : nbdAll ds = true) : dIn d (.list ds) = true ↔ d ∈ ds := by
  show (ds.any fun z => dEq z d) = true ↔ _
  rw [List.any_eq_true]
  constructor
  · rintro ⟨z, hz, e⟩
    rw [dEq_nbd (nbdAll_iff.mp h2 z hz) h] at e
    exact e ▸ hz
  · exact fun hd => ⟨d, hd, (dEq_nbd h h).mpr rfl⟩
theorem dInT {d : PyData} {ds : List PyData} (h : nbd d = true) (h2 : nbdAll ds = true) : dIn d (.tuple ds) = true ↔ d ∈ ds := dInL h h2
def pr (p : Int × Int) : PyData := .tuple [.int p.1, .int p.2]
theorem pr_alike (p q : Int × Int) : PySem.W.alike (pr p) (pr q) = true := by simp [pr, PySem.W.alike, PySem.W.alikeAll]
theorem sortOk_pr (ps : List (Int × Int)) : SortOk (ps.map pr) := by
  refine ⟨PySem.W.AllAlike.of fun a b => pr_alike a b, PySem.W.Sortable.tuples fun b => ⟨_, _, rfl⟩, fun d hd => ?_⟩
  obtain ⟨p, _, rfl⟩ := List.mem_map.mp hd
  simp [pr, PyData.depth, PyData.depthAll]
theorem sortOk_int (ps : List Int) : SortOk (ps.map .int) := by
  refine ⟨PySem.W.AllAlike.of fun a b => by simp [PySem.W.alike], PySem.W.Sortable.others fun b => by simp, fun d hd => ?_⟩
  obtain ⟨p, _, rfl⟩ := List.mem_map.mp hd
  simp [PyData.depth]
def lePr (p q : Int × Int) : Bool := decide (p.1 < q.1 ∨ (p.1 = q.1 ∧ p.2 ≤ q.2))
theorem sortD_pr (ps : List (Int × Int)) : sortD (ps.map pr) = (ps.mergeSort lePr).map pr := by
  unfold sortD
  rw [List.map_mergeSort (r := lePr) (s := PySem.W.dataLe false id)]
  intro a _ b _
  have := congrFun (congrFun (PySem.W.dataLe_ii (β := Int × Int) Prod.fst Prod.snd) a) b
  exact this.symm
theorem sortD_int (ps : List Int) : sortD (ps.map .int) = (ps.mergeSort fun a b => decide (a ≤ b)).map .int := by
  unfold sortD
  rw [List.map_mergeSort (r := fun a b => decide (a ≤ b)) (s := PySem.W.dataLe false id)]
  intro a _ b _
  have := congrFun (congrFun (PySem.W.dataLe_int (β := Int) id) a) b
  exact this.symm
theorem pr_inj : ∀ {p q : Int × Int}, pr p = pr q → p = q := by
  intro p q h
  injection h with h
  injection h with h1 h2
  injection h2 with h2 _
  injection h1 with h1
  injection h2 with h2
  exact Prod.ext h1 h2
theorem nb_pr (p : Int × Int) : nbd (pr p) = true := by simp [pr, nbd, nbdAll]
theorem shp_pr (p : Int × Int) : Shp 1 (pr p) := Shp.tuple (n := 0) fun d hd => by
  simp only [List.mem_cons, List.not_mem_nil, or_false] at hd
  rcases hd with rfl | rfl <;> exact Shp.int
def wSeqJ (a b : WS) : WS := wSeq a b
theorem tb_consJ {X : Cx} {s : Stmt} {ss : List Stmt} {a b : WS} (h1 : TrS X s a) (h2 : TrB X ss b) : TrB X (s :: ss) (wSeqJ a b) := tb_cons h1 h2
theorem join_ {a b : WS} {D : AEnds} {st : AS} (M : AS → Prop) (h : ∀ K : AS → Prop, (∀ s, M s → K s) → a { D with nx := K } st) (h2 : ∀ s, M s → b D s) : wSeqJ a b D st := h (b D) h2
end AL

namespace AL
open PySem PySem.Spec PyProof.Rows L2

def wM1 (a : Op2) (u v : WE) : WE := fun st Q => u st fun d1 m1 => (∃ z, d1 = .str z) ∧ v st fun d2 m2 => a d1 m1 d2 m2 Q
def Mt1A (X : Cx) (r : V → List V → Hp → VK → Prop) (a : Op2) : Prop := ∀ (H : Hp) (z : Str) (y : V) (d2 : PyData) (m1 m2 : Md) (Q : QE) (Q' : VK), Rp X.K H y d2 → a (.str z) m1 d2 m2 Q → (∀ v d, (∀ F, Rp X.K F v d) → Q d (.o 0) → Q' v H) → r (.str z) [y] H Q'
section
variable {X : Cx} {o e : Expr} {u v : WE} {apos pos : Pos}
theorem te_ms1 {id : String} {name : Str} {r : V → List V → Hp → VK → Prop} {a : Op2} (slot : Slot "str" name id) (ty : typeOf (.builtin id) = pure (.type "method_descriptor")) (rule : MtR X id r) (ha : Mt1A X r a) (h1 : TrE X o u) (h2 : TrE X e v)
    (hs : starEach [e] X.env = [(false, eval e X.env)]) (hbase : attributeBase o name X.env (eval o X.env) = eval o X.env) (hline : (apos.endLine == pos.line) = true) : TrE X (.Call (.Attribute o name apos) [e] [] pos) (wM1 a u v) := by
  obtain ⟨t1, p1, s1⟩ := h1.run
  obtain ⟨t2, p2, s2⟩ := h2.run
  refine ⟨_, pe_m1 slot ty rule p1 p2 hs hbase hline, fun B F0 H0 F H σ st Q Q' R hw k => s1 B F0 H0 F H σ st _ _ R hw fun x F1 H1 d md f x1 r1 n1 hq => ?_⟩
  obtain ⟨⟨z, rfl⟩, hq⟩ := hq
  have hz := r1.read x1.wf
  cases hz
  refine ⟨⟨z, rfl⟩, s2 B F0 H0 F1 H1 σ st _ _ (R.go x1) hq fun y F2 H2 d2 m2 f2 x2 r2 n2 hq2 => ?_⟩
  exact ha H2 z y d2 md m2 Q Q' (rp_mono era_sub _ _ (r2.read x2.wf)) hq2 fun v d hr hv => k v F2 H2 d (.o 0) [] (x1.trans x2) (.of (hr F2)) (fun _ h => by simp at h) hv
def aSS (g : Str → Str → PyData) : Op2 := fun d1 _ d2 _ Q => match d1, d2 with
  | .str x, .str y => Q (g x y) (.o 0)
  | _, _ => False
def aSSc (c : Str → Str → Prop) (g : Str → Str → PyData) : Op2 := fun d1 _ d2 _ Q => match d1, d2 with
  | .str x, .str y => c x y ∧ Q (g x y) (.o 0)
  | _, _ => False
def aSI (c : Str → Int → Prop) (g : Str → Int → PyData) : Op2 := fun d1 _ d2 _ Q => match d1, d2 with
  | .str x, .int y => c x y ∧ Q (g x y) (.o 0)
  | _, _ => False
def aStarts : Op2 := aSS fun x y => .bool (Txt.startswith x y)
def aEnds : Op2 := aSS fun x y => .bool (Txt.endswith x y)
def aFind : Op2 := aSS fun x y => .int (Txt.find x y)
def aCount : Op2 := aSS fun x y => .int (Txt.count x y)
def aRstrip : Op2 := aSSc (fun x _ => x.length ≤ sizeLine) fun x y => .str (Txt.rstripChars x y)
def aLstrip : Op2 := aSSc (fun x _ => x.length ≤ sizeLine) fun x y => .str (Txt.lstripChars x y)
def aStrip : Op2 := aSSc (fun x _ => x.length ≤ sizeLine) fun x y => .str (Txt.stripChars x y)
def aLjust : Op2 := aSI (fun _ i => PadOk i = true) fun x y => .str (Txt.ljust x y)
def aRjust : Op2 := aSI (fun _ i => PadOk i = true) fun x y => .str (Txt.rjust x y)
def aJoin : Op2 := fun d1 _ d2 _ Q => match d1, d2 with
  | .str x, .list ds => ∃ ys : List Str, ds = ys.map .str ∧ (ys.map (·.length)).sum + ys.length * x.length ≤ 16777216 ∧ Q (.str (Txt.join x ys)) (.o 0)
  | _, _ => False
theorem rpAll_strs {K : PySem.W.Frag} {H : Hp} : ∀ {ys : List Str} {vs : List V}, RpAll K H vs (ys.map .str) → vs = ys.map V.str
  | [], _, h => by cases h; rfl
  | y :: ys, _, h => by
    cases h with
    | cons h1 h2 => cases h1; rw [rpAll_strs h2]; rfl
theorem m1_ss {g : Str → Str → V} {g' : Str → Str → PyData} (hg : ∀ x y F, Rp X.K F (g x y) (g' x y)) : Mt1A X (fun x xs H Q => ∃ a b, x = .str a ∧ xs = [.str b] ∧ Q (g a b) H) (aSS g') := by
  intro H z y d2 m1 m2 Q Q' hr hw k
  unfold aSS at hw
  split at hw
  · rename_i h1
    cases h1
    cases hr
    exact ⟨_, _, rfl, rfl, k _ _ (hg _ _) hw⟩
  · exact hw.elim
theorem m1_ssc {c : Str → Str → Prop} {g : Str → Str → V} {g' : Str → Str → PyData} (hg : ∀ x y F, Rp X.K F (g x y) (g' x y)) : Mt1A X (fun x xs H Q => ∃ a b, x = .str a ∧ xs = [.str b] ∧ c a b ∧ Q (g a b) H) (aSSc c g') := by
  intro H z y d2 m1 m2 Q Q' hr hw k
  unfold aSSc at hw
  split at hw
  · rename_i h1
    cases h1
    cases hr
    exact ⟨_, _, rfl, rfl, hw.1, k _ _ (hg _ _) hw.2⟩
  · exact hw.elim
theorem m1_si {c : Str → Int → Prop} {g : Str → Int → V} {g' : Str → Int → PyData} (hg : ∀ x y F, Rp X.K F (g x y) (g' x y)) : Mt1A X (fun x xs H Q => ∃ (a : Str) (i : Int), x = .str a ∧ xs = [.int i] ∧ c a i ∧ Q (g a i) H) (aSI c g') := by
  intro H z y d2 m1 m2 Q Q' hr hw k
  unfold aSI at hw
  split at hw
  · rename_i h1
    cases h1
    cases hr
    exact ⟨_, _, rfl, rfl, hw.1, k _ _ (hg _ _) hw.2⟩
  · exact hw.elim
theorem te_m_startswith (h1 : TrE X o u) (h2 : TrE X e v) (hs : starEach [e] X.env = [(false, eval e X.env)] := by rfl) (hbase : attributeBase o "startswith" X.env (eval o X.env) = eval o X.env := by rfl) (hline : (apos.endLine == pos.line) = true := by rfl) :
    TrE X (.Call (.Attribute o "startswith" apos) [e] [] pos) (wM1 aStarts u v) := te_ms1 F.slot_str_startswith F.type_str_startswith mt_startswith (m1_ss fun _ _ _ => .bl _) h1 h2 hs hbase hline
theorem te_m_endswith (h1 : TrE X o u) (h2 : TrE X e v) (hs : starEach [e] X.env = [(false, eval e X.env)] := by rfl) (hbase : attributeBase o "endswith" X.env (eval o X.env) = eval o X.env := by rfl) (hline : (apos.endLine == pos.line) = true := by rfl) :
    TrE X (.Call (.Attribute o "endswith" apos) [e] [] pos) (wM1 aEnds u v) := te_ms1 F.slot_str_endswith F.type_str_endswith mt_endswith (m1_ss fun _ _ _ => .bl _) h1 h2 hs hbase hline
theorem te_m_find (h1 : TrE X o u) (h2 : TrE X e v) (hs : starEach [e] X.env = [(false, eval e X.env)] := by rfl) (hbase : attributeBase o "find" X.env (eval o X.env) = eval o X.env := by rfl) (hline : (apos.endLine == pos.line) = true := by rfl) :
    TrE X (.Call (.Attribute o "find" apos) [e] [] pos) (wM1 aFind u v) := te_ms1 F.slot_str_find F.type_str_find mt_find (m1_ss fun _ _ _ => .int _) h1 h2 hs hbase hline
theorem te_m_count (h1 : TrE X o u) (h2 : TrE X e v) (hs : starEach [e] X.env = [(false, eval e X.env)] := by rfl) (hbase : attributeBase o "count" X.env (eval o X.env) = eval o X.env := by rfl) (hline : (apos.endLine == pos.line) = true := by rfl) :
    TrE X (.Call (.Attribute o "count" apos) [e] [] pos) (wM1 aCount u v) := te_ms1 F.slot_str_count F.type_str_count mt_count (m1_ss fun _ _ _ => .int _) h1 h2 hs hbase hline
theorem te_m_rstrip (h1 : TrE X o u) (h2 : TrE X e v) (hs : starEach [e] X.env = [(false, eval e X.env)] := by rfl) (hbase : attributeBase o "rstrip" X.env (eval o X.env) = eval o X.env := by rfl) (hline : (apos.endLine == pos.line) = true := by rfl) :
    TrE X (.Call (.Attribute o "rstrip" apos) [e] [] pos) (wM1 aRstrip u v) := te_ms1 F.slot_str_rstrip F.type_str_rstrip mt_rstripChars (m1_ssc (c := fun x _ => x.length ≤ sizeLine) fun _ _ _ => .str _) h1 h2 hs hbase hline
theorem te_m_lstrip (h1 : TrE X o u) (h2 : TrE X e v) (hs : starEach [e] X.env = [(false, eval e X.env)] := by rfl) (hbase : attributeBase o "lstrip" X.env (eval o X.env) = eval o X.env := by rfl) (hline : (apos.endLine == pos.line) = true := by rfl) :
    TrE X (.Call (.Attribute o "lstrip" apos) [e] [] pos) (wM1 aLstrip u v) := te_ms1 F.slot_str_lstrip F.type_str_lstrip mt_lstripChars (m1_ssc (c := fun x _ => x.length ≤ sizeLine) fun _ _ _ => .str _) h1 h2 hs hbase hline
theorem te_m_strip (h1 : TrE X o u) (h2 : TrE X e v) (hs : starEach [e] X.env = [(false, eval e X.env)] := by rfl) (hbase : attributeBase o "strip" X.env (eval o X.env) = eval o X.env := by rfl) (hline : (apos.endLine == pos.line) = true := by rfl) :
    TrE X (.Call (.Attribute o "strip" apos) [e] [] pos) (wM1 aStrip u v) := te_ms1 F.slot_str_strip F.type_str_strip mt_stripChars (m1_ssc (c := fun x _ => x.length ≤ sizeLine) fun _ _ _ => .str _) h1 h2 hs hbase hline
theorem te_m_ljust (h1 : TrE X o u) (h2 : TrE X e v) (hs : starEach [e] X.env = [(false, eval e X.env)] := by rfl) (hbase : attributeBase o "ljust" X.env (eval o X.env) = eval o X.env := by rfl) (hline : (apos.endLine == pos.line) = true := by rfl) :
    TrE X (.Call (.Attribute o "ljust" apos) [e] [] pos) (wM1 aLjust u v) := te_ms1 F.slot_str_ljust F.type_str_ljust mt_ljust (m1_si (c := fun _ i => PadOk i = true) fun _ _ _ => .str _) h1 h2 hs hbase hline
theorem te_m_rjust (h1 : TrE X o u) (h2 : TrE X e v) (hs : starEach [e] X.env = [(false, eval e X.env)] := by rfl) (hbase : attributeBase o "rjust" X.env (eval o X.env) = eval o X.env := by rfl) (hline : (apos.endLine == pos.line) = true := by rfl) :
    TrE X (.Call (.Attribute o "rjust" apos) [e] [] pos) (wM1 aRjust u v) := te_ms1 F.slot_str_rjust F.type_str_rjust mt_rjust (m1_si (c := fun _ i => PadOk i = true) fun _ _ _ => .str _) h1 h2 hs hbase hline
theorem m1_join : Mt1A X (fun x xs H Q => ∃ a p, ∃ ys : List Str, x = .str a ∧ xs = [.ref p] ∧ (SqL X.K H p (ys.map V.str) ∨ SqT X.K H p (ys.map V.str)) ∧
    (ys.map (·.length)).sum + ys.length * a.length ≤ 16777216 ∧ Q (.str (Txt.join a ys)) H) aJoin := by
  intro H z y d2 m1 m2 Q Q' hr hw k
  unfold aJoin at hw
  split at hw
  · rename_i x ds h1
    cases h1
    obtain ⟨ys, rfl, hz, hq⟩ := hw
    cases hr with
    | lst g1 g2 => exact ⟨_, _, ys, rfl, rfl, .inl (SqL.of (by rw [← rpAll_strs g2]; exact g1)), hz, k _ _ (fun _ => .str _) hq⟩
  · exact hw.elim
theorem te_m_join (h1 : TrE X o u) (h2 : TrE X e v) (hs : starEach [e] X.env = [(false, eval e X.env)] := by rfl) (hbase : attributeBase o "join" X.env (eval o X.env) = eval o X.env := by rfl) (hline : (apos.endLine == pos.line) = true := by rfl) :
    TrE X (.Call (.Attribute o "join" apos) [e] [] pos) (wM1 aJoin u v) := te_ms1 F.slot_str_join F.type_str_join mt_join m1_join h1 h2 hs hbase hline
def rMulS : R2 := fun x y H Q => ∃ z k, x = .str z ∧ y = .int k ∧ PySem.MulOk z k ∧ Q (.str (Txt.mul z k)) H
theorem op_mulS : OpR X (binaryOp .Mult) rMulS := by
  intro pins s σ H x y v u Q I r1 r2 ⟨z, k, e1, e2, ok, q⟩
  subst e1 e2
  obtain ⟨t, rfl⟩ := r1
  obtain ⟨t', rfl⟩ := r2
  exact PySem.SB.mul ok fun t' n => ⟨.str _, H, I.tok n, ⟨t', rfl⟩, q⟩
def aSRep : Op2 := fun d1 _ d2 _ Q => match d1, d2 with
  | .str z, .int k => PySem.MulOk z k ∧ Q (.str (Txt.mul z k)) (.o 0)
  | _, _ => False
theorem opa_mulS : OpA X rMulS aSRep := by
  refine opa_read fun H x y d1 d2 m1 m2 Q Q' h1 h2 hw k => ?_
  unfold aSRep at hw
  split at hw
  · cases h1; cases h2; exact ⟨_, _, rfl, rfl, hw.1, k _ _ (fun _ => .str _) hw.2⟩
  · exact hw.elim
theorem te_srep {e1 e2 : Expr} {u v : WE} {pos : Pos} (h1 : TrE X e1 u) (h2 : TrE X e2 v) : TrE X (.BinOp e1 .Mult e2 pos) (w2 aSRep u v) := te_op op_mulS opa_mulS h1 h2
end
section
variable {st : AS} {Q : QE} {u v : WE} {x z : Str} {k : Int} {ds : List PyData} {md md' : Md}
def m1K (a : Op2) (v : WE) (st : AS) (Q : QE) (d1 : PyData) (m1 : Md) : Prop := (∃ z, d1 = .str z) ∧ v st fun d2 m2 => a d1 m1 d2 m2 Q
theorem r_wM1 {a : Op2} : wM1 a u v st Q = u st (m1K a v st Q) := rfl
theorem r_m1K {a : Op2} : m1K a v st Q (.str z) md = v st fun d2 m2 => a (.str z) md d2 m2 Q := by
  exact propext ⟨fun h => h.2, fun h => ⟨⟨z, rfl⟩, h⟩⟩
theorem r_starts : aStarts (.str x) md (.str z) md' Q = Q (.bool (Txt.startswith x z)) (.o 0) := rfl
theorem r_ends : aEnds (.str x) md (.str z) md' Q = Q (.bool (Txt.endswith x z)) (.o 0) := rfl
theorem r_find : aFind (.str x) md (.str z) md' Q = Q (.int (Txt.find x z)) (.o 0) := rfl
theorem r_count : aCount (.str x) md (.str z) md' Q = Q (.int (Txt.count x z)) (.o 0) := rfl
theorem r_rstrip : aRstrip (.str x) md (.str z) md' Q = (x.length ≤ sizeLine ∧ Q (.str (Txt.rstripChars x z)) (.o 0)) := rfl
theorem r_lstrip : aLstrip (.str x) md (.str z) md' Q = (x.length ≤ sizeLine ∧ Q (.str (Txt.lstripChars x z)) (.o 0)) := rfl
theorem r_strip : aStrip (.str x) md (.str z) md' Q = (x.length ≤ sizeLine ∧ Q (.str (Txt.stripChars x z)) (.o 0)) := rfl
theorem r_ljust : aLjust (.str x) md (.int k) md' Q = (PadOk k = true ∧ Q (.str (Txt.ljust x k)) (.o 0)) := rfl
theorem r_rjust : aRjust (.str x) md (.int k) md' Q = (PadOk k = true ∧ Q (.str (Txt.rjust x k)) (.o 0)) := rfl
def JoinK (x : Str) (ds : List PyData) (Q : QE) (_ : Tg Q) : Prop := ∃ ys : List Str, ds = ys.map .str ∧ (ys.map (·.length)).sum + ys.length * x.length ≤ 16777216 ∧ Q (.str (Txt.join x ys)) (.o 0)
theorem r_join : aJoin (.str x) md (.list ds) md' Q = JoinK x ds Q (tg Q) := rfl
theorem join_s {t : Tg Q} (ys : List Str) (h : ds = ys.map .str) (h2 : (ys.map (·.length)).sum + ys.length * x.length ≤ 16777216) (hq : Q (.str (Txt.join x ys)) (.o 0)) : JoinK x ds Q t := ⟨ys, h, h2, hq⟩
theorem r_sRep : aSRep (.str z) md (.int k) md' Q = (PySem.MulOk z k ∧ Q (.str (Txt.mul z k)) (.o 0)) := rfl
end
end AL

namespace AL
open PySem PySem.Spec PyProof.Rows L2

def IdxK (ds : List PyData) (d : PyData) (Q : QE) (_ : Tg Q) : Prop := SeqAt.shaped (.list ds) = true ∧ SeqAt.shaped d = true ∧ ∃ (j : Nat) (z : PyData), ds[j]? = some z ∧ dEq z d = true ∧ (∀ (m : Nat) (z' : PyData), m < j → ds[m]? = some z' → dEq z' d = false) ∧ Q (.int (j : Nat)) (.o 0)
def aIndex : Op2 := fun d1 _ d2 _ Q => match d1 with
  | .list ds => IdxK ds d2 Q (tg Q)
  | _ => False
def wIdx (u v : WE) : WE := fun st Q => u st fun d1 m1 => (∃ ds, d1 = .list ds) ∧ v st fun d2 m2 => aIndex d1 m1 d2 m2 Q
section
variable {X : Cx} {o e : Expr} {u v : WE} {apos pos : Pos}
theorem te_m_index (h1 : TrE X o u) (h2 : TrE X e v) (hm : ∀ {to : TE} {t : TA}, PE X o to → PA X [e] t → PE X (.Call (.Attribute o "index" apos) [e] [] pos) (tBM X.K "list" (rIndexD X.K) to t)) (hst : starEach [e] X.env = (false, eval e X.env) :: starEach [] X.env := by rfl) :
    TrE X (.Call (.Attribute o "index" apos) [e] [] pos) (wIdx u v) := by
  obtain ⟨t1, p1, s1⟩ := h1.run
  obtain ⟨t2, p2, s2⟩ := h2.run
  refine ⟨_, hm p1 (pa_cons p2 pa_nil hst), fun B F0 H0 F H σ st Q Q' R hw k => s1 B F0 H0 F H σ st _ _ R hw fun x F1 H1 d md f x1 r1 n1 hq => ?_⟩
  obtain ⟨⟨ds, rfl⟩, hq⟩ := hq
  obtain ⟨a, vs, e1, g1, _, q1⟩ := r1.list x1.wf
  subst e1
  refine ⟨.inl ⟨rfl, vs, SqL.of g1⟩, s2 B F0 H0 F1 H1 σ st _ _ (R.go x1) hq fun y F2 H2 d2 m2 f2 x2 r2 n2 hq2 => ?_⟩
  obtain ⟨o1, o2, j, z, hj, he, hb, hq3⟩ := hq2
  have hl : Rp X.K H2 (.ref a) (.list ds) := rp_mono era_sub _ _ ((r1.ext x2).read x2.wf)
  have hd : Rp X.K H2 y d2 := rp_mono era_sub _ _ (r2.read x2.wf)
  exact ⟨a, y, d2, ds, j, z, rfl, rfl, Rp.dp _ _ hl (nod_shaped o1), Rp.dp _ _ hd (nod_shaped o2), o1, o2, hj, by rw [← dEq_eqv]; exact he, fun m z' h h' => by rw [← dEq_eqv]; exact hb m z' h h', k _ F2 H2 _ (.o 0) [] (x1.trans x2) (.of (.int _)) (fun _ h => by simp at h) hq3⟩
end
theorem fp3_ins {R : V → PyData → List Addr → Prop} {v : V} {d : PyData} {g : List Addr} (r : R v d g) : ∀ {vs : List V} {ds : List PyData} {fs : List Addr} (p : Nat), Fp3 R vs ds fs →
    ∃ fs', Fp3 R (vs.take p ++ [v] ++ vs.drop p) (ds.take p ++ [d] ++ ds.drop p) fs' ∧ (∀ b ∈ fs', b ∈ fs ∨ b ∈ g) ∧ (fs.Nodup → g.Nodup → (∀ b ∈ g, b ∉ fs) → fs'.Nodup)
  | vs, ds, fs, 0, h => ⟨g ++ fs, by simpa using Fp3.cons r h, fun b hb => (List.mem_append.mp hb).symm, fun n1 n2 dj => fp3_nodup_app n2 n1 fun x hx hy => dj x hx hy⟩
  | _, _, _, p + 1, .nil => ⟨g ++ [], by simpa using Fp3.cons r .nil, fun b hb => .inr (by simpa using hb), fun _ n2 _ => by simpa using n2⟩
  | _, _, _, p + 1, .cons (f := f) (fs := fs) h t => by
    obtain ⟨fs', h1, h2, h3⟩ := fp3_ins r p t
    refine ⟨f ++ fs', by simpa using Fp3.cons h h1, fun b hb => ?_, fun n1 n2 dj => ?_⟩
    · rcases List.mem_append.mp hb with q | q
      · exact .inl (List.mem_append_left _ q)
      · exact (h2 b q).elim (fun z => .inl (List.mem_append_right _ z)) .inr
    · obtain ⟨a1, a2, a3⟩ := List.nodup_append.mp n1
      refine fp3_nodup_app a1 (h3 a2 n2 fun b hb hc => dj b hb (List.mem_append_right _ hc)) fun x hx hy => ?_
      rcases h2 x hy with q | q
      · exact a3 x hx x q rfl
      · exact dj x q (List.mem_append_left _ hx)
theorem fp3_del {R : V → PyData → List Addr → Prop} : ∀ {vs : List V} {ds : List PyData} {fs : List Addr} (p : Nat), Fp3 R vs ds fs → p < ds.length →
    ∃ v d g fs', vs[p]? = some v ∧ ds[p]? = some d ∧ R v d g ∧ Fp3 R (vs.eraseIdx p) (ds.eraseIdx p) fs' ∧ (∀ b ∈ fs', b ∈ fs) ∧ (fs.Nodup → fs'.Nodup)
  | _, _, _, _, .nil, h => absurd h (Nat.not_lt_zero _)
  | _, _, _, 0, .cons (f := f) (fs := fs) h t, _ => ⟨_, _, f, fs, rfl, rfl, h, t, fun b hb => List.mem_append_right _ hb, fun n => (List.nodup_append.mp n).2.1⟩
  | _, _, _, p + 1, .cons (f := f) (fs := fs) h t, hp => by
    obtain ⟨v, d, g, fs', h1, h2, h3, h4, h5, h6⟩ := fp3_del p t (Nat.lt_of_succ_lt_succ hp)
    refine ⟨v, d, g, f ++ fs', by simpa using h1, by simpa using h2, h3, by simpa using Fp3.cons h h4, fun b hb => ?_, fun n => ?_⟩
    · rcases List.mem_append.mp hb with q | q
      · exact List.mem_append_left _ q
      · exact List.mem_append_right _ (h5 b q)
    · obtain ⟨a1, a2, a3⟩ := List.nodup_append.mp n
      exact fp3_nodup_app a1 (h6 a2) fun x hx hy => a3 x hx x (h5 x hy) rfl
section
variable {X : Cx} {e ej : Expr} {u v : WE} {pos p1 p2 p3 py : Pos}
def wS_insert (i : Nat) (j u : WE) : WS := fun D st => match slot st i with
  | .val (.list ds) (.o (m + 1)) => j st fun dj _ => match dj with
    | .int z => u st fun d md => eOk m d md = true ∧ ds.length < sizeLine ∧ 0 ≤ z ∧ z < 9223372036854775808 ∧ D.nx (put st i (.val (.list (ds.take z.toNat ++ [d] ++ ds.drop z.toNat)) (.o (m + 1))))
    | _ => False
  | _ => False
def rInsert : V → List V → Hp → VK → Prop := fun x vs H Q => ∃ (l : Addr) (xs : List V) (i : Int) (y : V), x = .ref l ∧ vs = [.int i, y] ∧ H l = some (.lst xs) ∧ xs.length < sizeLine ∧ 0 ≤ i ∧ i < 2 ^ 63 ∧
    Q .non (upd H l (.lst (xs.take i.toNat ++ [y] ++ xs.drop i.toNat)))
theorem ts_insert (i : Nat) {x : Str} (hj : TrE X ej v) (h : TrE X e u)
    (hm : ∀ {to : TE} {t : TA}, PE X (.Name x p1) to → PA X [ej, e] t → PE X (.Call (.Attribute (.Name x p1) "insert" p2) [ej, e] [] p3) (tBM X.K "list" rInsert to t))
    (hN : X.N[i]? = some x := by rfl) (hv : Vis X.env.scope x := by first | exact Or.inl rfl | exact Or.inr (Or.inl rfl) | exact Or.inr (Or.inr rfl))
    (hd : (x == ("__debug__" : Str)) = false := by decide) (hcd : (x == ("__classdict__" : Str)) = false := by decide)
    (hst : starEach [ej, e] X.env = (false, eval ej X.env) :: starEach [e] X.env := by rfl) (hst2 : starEach [e] X.env = (false, eval e X.env) :: starEach [] X.env := by rfl)
    (hs : swapsWith (.Call (.Attribute (.Name x p1) "insert" p2) [ej, e] [] p3) none pos.line X.env = pure false := by rfl) :
    TrS X (.Expr (.Call (.Attribute (.Name x p1) "insert" p2) [ej, e] [] p3) pos) (wS_insert i v u) := by
  obtain ⟨t, p, sd⟩ := h.run
  obtain ⟨tj, pj, sj⟩ := hj.run
  refine ⟨_, ps_expr (hm (pe_var hN hv hd hcd) (pa_cons pj (pa_cons p pa_nil hst2) hst)) hs, fun B F0 H0 F H σ st D D' R n hw k => ?_⟩
  unfold wS_insert at hw
  split at hw
  · rename_i ds m hsl
    obtain ⟨a, xs0, q1, q2, _⟩ := R.recv hsl
    refine ⟨_, q1, .inl ⟨rfl, _, SqL.of q2⟩, sj B F0 H0 F H σ st _ _ R hw fun yj F1 H1 dj mj fj x1 r1 n1 hq1 => ?_⟩
    split at hq1
    · rename_i z
      have hz := r1.read x1.wf
      cases hz
      refine sd B F0 H0 F1 H1 σ st _ _ (R.go x1) hq1 fun y F2' H2 d md f x2 r2 n2 hq => ?_
      obtain ⟨hk, hz, z0, z1, hq⟩ := hq
      have x12 := x1.trans x2
      have n2' : ∀ a ∈ f, H a = none := fun a ha => x1.old (r2.2.1 a ha) (n2 a ha)
      obtain ⟨F2, g, x3, _, s2, o2, nd, fr, _, _⟩ := r2.item x12 n2' hk
      obtain ⟨a', xs, fs, w1, w2, w3, w4, w5, w6, w7, w8, w9⟩ := R.write n x3 hsl
      rw [q1] at w1
      obtain rfl : a = a' := by simpa using w1
      have hag : a ∉ g := fun hm => by
        obtain ⟨o, ho⟩ := w6 a (List.mem_cons_self ..)
        rw [(fr a hm).2] at ho; cases ho
      obtain ⟨fs', s1, s3, s4⟩ := fp3_ins o2 z.toNat w3
      have ha' : a ∉ fs' := fun hm => (s3 a hm).elim w4 hag
      refine ⟨a, xs, z, y, rfl, rfl, w2, by rw [w3.len]; exact hz, z0, by simpa using z1, k.nx σ F2 _ _ x3.ff (w9 _ _ fs' m upd_keep ⟨_, upd_same, fp3_upd s1 ha'⟩ (s4 w5 nd fun b hb hc => ?_) fun b hb => ?_) (noB_put n) hq⟩
      · obtain ⟨o, ho⟩ := w6 b (List.mem_cons_of_mem _ hc)
        rw [(fr b hb).2] at ho; cases ho
      · exact (s3 b hb).elim .inl fun q => .inr ⟨(fr b q).2, (fr b q).1⟩
    · exact hq1.elim
  · exact hw.elim
def wPopAt (ix : Nat) (j : WE) (k : PyData → AS → Prop) (st : AS) : Prop := match slot st ix with
  | .val (.list ds) (.o 1) => j st fun dj _ => match dj with
    | .int z => ds.length ≤ sizeLine ∧ match ixN ds.length z with
      | some p => match ds[p]? with
        | some d => k d (put st ix (.val (.list (ds.eraseIdx p)) (.o 1)))
        | none => False
      | none => False
    | _ => False
  | _ => False
def wS_pop (ix : Nat) (j : WE) : WS := fun D st => wPopAt ix j (fun _ st' => D.nx st') st
def wSetPop (iy ix : Nat) (j : WE) : WS := fun D st => wPopAt ix j (fun d st' => iy < st'.length ∧ D.nx (put st' iy (.val d (.o 0)))) st
theorem popS {tj : TE} {ix : Nat} {j : WE} {K : PySem.W.Frag} {kk : PyData → AS → Prop} (sj : ∀ B F0 H0 F H σ st Q (Q' : VK), SR K B F0 H0 F H σ st → j st Q → (∀ v F' H' d md fp, Ext K B F H F' H' → TR K B F' H' v d md fp → (∀ a ∈ fp, H a = none) → Q d md → Q' v H') → tj σ H Q')
    {B : Option Bx} {F0 H0 F H : Hp} {σ : L2.St} {st : AS} {Q' : VK} (R : SR K B F0 H0 F H σ st) (n : NoB st) (hw : wPopAt ix j kk st)
    (k : ∀ v d F' H' st', Same F F' → SR K B F0 H0 F' H' σ st' → NoB st' → Rp K F' v d → kk d st' → Q' v H') : tBM K "list" rPopAt (tVar ix) (tCons tj tNil) σ H Q' := by
  unfold wPopAt at hw
  split at hw
  · rename_i ds hsl
    obtain ⟨a, xs0, q1, q2, _⟩ := R.recv hsl
    refine ⟨_, q1, .inl ⟨rfl, _, SqL.of q2⟩, sj B F0 H0 F H σ st _ _ R hw fun yj F1 H1 dj mj fj x1 r1 n1 hq1 => ?_⟩
    split at hq1
    · rename_i z
      have hz := r1.read x1.wf
      cases hz
      obtain ⟨hl, hq1⟩ := hq1
      split at hq1
      · rename_i p hp
        split at hq1
        · rename_i d hd
          obtain ⟨a', xs, fs, w1, w2, w3, w4, w5, w6, w7, w8, w9⟩ := R.write n x1 hsl
          rw [q1] at w1
          obtain rfl : a = a' := by simpa using w1
          obtain ⟨s1, s2, s3, s4⟩ := ixN_seq hp
          obtain ⟨v, d', g, fs', e1, e2, e3, e4, e5, e6⟩ := fp3_del p w3 s2
          rw [hd] at e2
          cases e2
          have hlen := w3.len
          have hl' : ds.length ≤ 16777216 := hl
          refine ⟨a, xs, z, p, v, rfl, rfl, w2, by omega, by omega, by rw [hlen]; exact s1, e1, ?_⟩
          exact k v d F1 _ _ x1.ff (w9 _ _ fs' 0 upd_keep ⟨_, upd_same, fp3_upd e4 fun hm => w4 (e5 a hm)⟩ (e6 w5) fun b hb => .inl (e5 b hb)) (noB_put n) e3.1 hq1
        · exact hq1.elim
      · exact hq1.elim
    · exact hq1.elim
  · exact hw.elim
theorem ts_pop (ix : Nat) {x : Str} (hj : TrE X ej v)
    (hm : ∀ {to : TE} {t : TA}, PE X (.Name x p1) to → PA X [ej] t → PE X (.Call (.Attribute (.Name x p1) "pop" p2) [ej] [] p3) (tBM X.K "list" rPopAt to t))
    (hN : X.N[ix]? = some x := by rfl) (hv : Vis X.env.scope x := by first | exact Or.inl rfl | exact Or.inr (Or.inl rfl) | exact Or.inr (Or.inr rfl))
    (hd : (x == ("__debug__" : Str)) = false := by decide) (hcd : (x == ("__classdict__" : Str)) = false := by decide)
    (hst : starEach [ej] X.env = (false, eval ej X.env) :: starEach [] X.env := by rfl)
    (hs : swapsWith (.Call (.Attribute (.Name x p1) "pop" p2) [ej] [] p3) none pos.line X.env = pure false := by rfl) :
    TrS X (.Expr (.Call (.Attribute (.Name x p1) "pop" p2) [ej] [] p3) pos) (wS_pop ix v) := by
  obtain ⟨tj, pj, sj⟩ := hj.run
  refine ⟨_, ps_expr (hm (pe_var hN hv hd hcd) (pa_cons pj pa_nil hst)) hs, fun B F0 H0 F H σ st D D' R n hw k => ?_⟩
  exact popS sj R n hw fun v d F' H' st' ff R' n' r hq => k.nx σ F' H' st' ff R' n' hq
theorem ts_setPop (iy ix : Nat) {x y : Str} (hj : TrE X ej v) (hND : X.N.Nodup)
    (hm : ∀ {to : TE} {t : TA}, PE X (.Name x p1) to → PA X [ej] t → PE X (.Call (.Attribute (.Name x p1) "pop" p2) [ej] [] p3) (tBM X.K "list" rPopAt to t))
    (hN : X.N[ix]? = some x := by rfl) (hv : Vis X.env.scope x := by first | exact Or.inl rfl | exact Or.inr (Or.inl rfl) | exact Or.inr (Or.inr rfl))
    (hd : (x == ("__debug__" : Str)) = false := by decide) (hcd : (x == ("__classdict__" : Str)) = false := by decide)
    (hi : X.N[iy]? = some y := by rfl) (hx : Loc X.env.scope y := by first | exact Or.inl rfl | exact Or.inr rfl)
    (hst : starEach [ej] X.env = (false, eval ej X.env) :: starEach [] X.env := by rfl)
    (hs : swapsWith (.Call (.Attribute (.Name x p1) "pop" p2) [ej] [] p3) (some (.Name y py)) pos.line X.env = pure false := by rfl)
    (hf : X.fn y = true ∨ X.env.scope.names.lookup y = some .local := by first | exact .inl rfl | exact .inr rfl | assumption) :
    TrS X (.Assign [.Name y py] (.Call (.Attribute (.Name x p1) "pop" p2) [ej] [] p3) pos) (wSetPop iy ix v) := by
  obtain ⟨tj, pj, sj⟩ := hj.run
  refine ⟨_, ps_set hND hi hx (hm (pe_var hN hv hd hcd) (pa_cons pj pa_nil hst)) hs hf, fun B F0 H0 F H σ st D D' R n hw k => ?_⟩
  refine popS sj R n hw fun v d F' H' st' ff R' n' r hq => ?_
  obtain ⟨hi', hq⟩ := hq
  obtain ⟨F2, s2, R2⟩ := R'.store n' (.refl R'.wf) (.of r) (fun _ h => by simp at h) hi' (own := false) (m := 0) rfl
  exact k.nx _ F2 H' _ (ff.trans s2) R2 (noB_put n') hq
theorem eraseIdx_last {α : Type} : ∀ xs : List α, xs.eraseIdx (xs.length - 1) = xs.dropLast
  | [] => rfl
  | [_] => rfl
  | x :: y :: r => congrArg (x :: ·) (eraseIdx_last (y :: r))
theorem popS0 {ix : Nat} {K : PySem.W.Frag} {kk : PyData → AS → Prop} {B : Option Bx} {F0 H0 F H : Hp} {σ : L2.St} {st : AS} {Q' : VK} (R : SR K B F0 H0 F H σ st) (n : NoB st) (hw : wPopAt ix (wC (.int (-1))) kk st)
    (k : ∀ v d F' H' st', Same F F' → SR K B F0 H0 F' H' σ st' → NoB st' → Rp K F' v d → kk d st' → Q' v H') : tBM0 K "list" rPop (tVar ix) σ H Q' := by
  unfold wPopAt at hw
  split at hw
  · rename_i ds hsl
    obtain ⟨hl, hq1⟩ := hw
    obtain ⟨a, xs0, q1, q2, _⟩ := R.recv hsl
    refine ⟨_, q1, .inl ⟨rfl, _, SqL.of q2⟩, ?_⟩
    split at hq1
    · rename_i p hp
      split at hq1
      · rename_i d hd
        obtain ⟨a', xs, fs, w1, w2, w3, w4, w5, w6, w7, w8, w9⟩ := R.write n (.refl R.wf) hsl
        rw [q1] at w1
        obtain rfl : a = a' := by simpa using w1
        obtain ⟨s1, s2, s3, s4⟩ := ixN_seq hp
        have hp' : p = ds.length - 1 := by
          unfold ixN at hp
          rw [if_neg (by decide), if_pos s3] at hp
          have := Option.some.inj hp
          omega
        obtain ⟨v, d', g, fs', e1, e2, e3, e4, e5, e6⟩ := fp3_del p w3 s2
        rw [hd] at e2
        cases e2
        have hlen := w3.len
        have ex : xs.eraseIdx p = xs.dropLast := by rw [hp', ← hlen, eraseIdx_last]
        refine ⟨a, xs, v, rfl, rfl, w2, by rw [hlen, ← hp']; exact e1, ?_⟩
        exact k v d F _ _ (Same.refl _) (w9 _ _ fs' 0 upd_keep ⟨_, upd_same, by rw [← ex]; exact fp3_upd e4 fun hm => w4 (e5 a hm)⟩ (e6 w5) fun b hb => .inl (e5 b hb)) (noB_put n) e3.1 hq1
      · exact hq1.elim
    · exact hq1.elim
  · exact hw.elim
theorem ts_pop0 (ix : Nat) {x : Str}
    (hm : ∀ {to : TE}, PE X (.Name x p1) to → PE X (.Call (.Attribute (.Name x p1) "pop" p2) [] [] p3) (tBM0 X.K "list" rPop to))
    (hN : X.N[ix]? = some x := by rfl) (hv : Vis X.env.scope x := by first | exact Or.inl rfl | exact Or.inr (Or.inl rfl) | exact Or.inr (Or.inr rfl))
    (hd : (x == ("__debug__" : Str)) = false := by decide) (hcd : (x == ("__classdict__" : Str)) = false := by decide)
    (hs : swapsWith (.Call (.Attribute (.Name x p1) "pop" p2) [] [] p3) none pos.line X.env = pure false := by rfl) :
    TrS X (.Expr (.Call (.Attribute (.Name x p1) "pop" p2) [] [] p3) pos) (wS_pop ix (wC (.int (-1)))) :=
  ⟨_, ps_expr (hm (pe_var hN hv hd hcd)) hs, fun B F0 H0 F H σ st D D' R n hw k => popS0 R n hw fun v d F' H' st' ff R' n' r hq => k.nx σ F' H' st' ff R' n' hq⟩
theorem ts_setPop0 (iy ix : Nat) {x y : Str} (hND : X.N.Nodup)
    (hm : ∀ {to : TE}, PE X (.Name x p1) to → PE X (.Call (.Attribute (.Name x p1) "pop" p2) [] [] p3) (tBM0 X.K "list" rPop to))
    (hN : X.N[ix]? = some x := by rfl) (hv : Vis X.env.scope x := by first | exact Or.inl rfl | exact Or.inr (Or.inl rfl) | exact Or.inr (Or.inr rfl))
    (hd : (x == ("__debug__" : Str)) = false := by decide) (hcd : (x == ("__classdict__" : Str)) = false := by decide)
    (hi : X.N[iy]? = some y := by rfl) (hx : Loc X.env.scope y := by first | exact Or.inl rfl | exact Or.inr rfl)
    (hs : swapsWith (.Call (.Attribute (.Name x p1) "pop" p2) [] [] p3) (some (.Name y py)) pos.line X.env = pure false := by rfl)
    (hf : X.fn y = true ∨ X.env.scope.names.lookup y = some .local := by first | exact .inl rfl | exact .inr rfl | assumption) :
    TrS X (.Assign [.Name y py] (.Call (.Attribute (.Name x p1) "pop" p2) [] [] p3) pos) (wSetPop iy ix (wC (.int (-1)))) := by
  refine ⟨_, ps_set hND hi hx (hm (pe_var hN hv hd hcd)) hs hf, fun B F0 H0 F H σ st D D' R n hw k => ?_⟩
  refine popS0 R n hw fun v d F' H' st' ff R' n' r hq => ?_
  obtain ⟨hi', hq⟩ := hq
  obtain ⟨F2, s2, R2⟩ := R'.store n' (.refl R'.wf) (.of r) (fun _ h => by simp at h) hi' (own := false) (m := 0) rfl
  exact k.nx _ F2 H' _ (ff.trans s2) R2 (noB_put n') hq
end
section
variable {st r : AS} {D : AEnds} {Q : QE} {u v : WE} {i j m n ix iy : Nat} {z : Int} {ds : List PyData} {d : PyData} {q : SV} {md md' : Md} {k : AS → Prop} {kk : PyData → AS → Prop}
def idK (v : WE) (st : AS) (Q : QE) (d1 : PyData) (m1 : Md) : Prop := (∃ ds, d1 = .list ds) ∧ v st fun d2 m2 => aIndex d1 m1 d2 m2 Q
theorem r_idx : wIdx u v st Q = u st (idK v st Q) := rfl
theorem r_idK : idK v st Q (.list ds) md = v st fun d2 _ => IdxK ds d2 Q (tg Q) := propext ⟨fun h => h.2, fun h => ⟨⟨ds, rfl⟩, h⟩⟩
theorem idx_ {t : Tg Q} (j : Nat) (x : PyData) (h1 : SeqAt.shaped (.list ds) = true) (h2 : SeqAt.shaped d = true) (hj : ds[j]? = some x) (he : dEq x d = true) (hb : ∀ (m : Nat) (z' : PyData), m < j → ds[m]? = some z' → dEq z' d = false) (hq : Q (.int (j : Nat)) (.o 0)) : IdxK ds d Q t := ⟨h1, h2, j, x, hj, he, hb, hq⟩
def insK (own : AS) (i : Nat) (v u : WE) (k : AS → Prop) : AS → Nat → Prop := fun st j => match slot st j with
  | .val (.list ds) (.o (m + 1)) => v own fun dj _ => match dj with
    | .int z => u own fun d md => eOk m d md = true ∧ ds.length < sizeLine ∧ 0 ≤ z ∧ z < 9223372036854775808 ∧ putK own i (.val (.list (ds.take z.toNat ++ [d] ++ ds.drop z.toNat)) (.o (m + 1))) k
    | _ => False
  | _ => False
def insJ (own : AS) (i : Nat) (ds : List PyData) (m : Nat) (u : WE) (k : AS → Prop) (dj : PyData) (_ : Md) : Prop := match dj with
  | .int z => u own fun d md => eOk m d md = true ∧ ds.length < sizeLine ∧ 0 ≤ z ∧ z < 9223372036854775808 ∧ putK own i (.val (.list (ds.take z.toNat ++ [d] ++ ds.drop z.toNat)) (.o (m + 1))) k
  | _ => False
theorem r_insert : wS_insert i v u D st = insK st i v u D.nx st i := by
  unfold wS_insert insK
  split
  · rename_i ds m h
    have hl : i < st.length := slot_lt h
    simp only [h, putK_eq, eq_true hl, true_and] <;> rfl
  · rename_i h
    first
      | rfl
      | (split
         · rename_i ds m h2; exact absurd h2 (h ds m)
         · rfl)
theorem r_ins0 : insK st i v u k (.val (.list ds) (.o (m + 1)) :: r) 0 = v st (insJ st i ds m u k) := rfl
theorem r_insS : insK st i v u k (q :: r) (j + 1) = insK st i v u k r j := rfl
theorem r_insJ : insJ st i ds m u k (.int z) md = u st fun d md => eOk m d md = true ∧ ds.length < sizeLine ∧ 0 ≤ z ∧ z < 9223372036854775808 ∧ putK st i (.val (.list (ds.take z.toNat ++ [d] ++ ds.drop z.toNat)) (.o (m + 1))) k := rfl
def PopP (own : AS) (ix : Nat) (ds : List PyData) (z : Int) (kk : PyData → AS → Prop) (_ : Tg kk) : Prop := match ixN ds.length z with
  | some p => match ds[p]? with
    | some d => putK own ix (.val (.list (ds.eraseIdx p)) (.o 1)) (kk d)
    | none => False
  | none => False
def popJ (own : AS) (ix : Nat) (ds : List PyData) (kk : PyData → AS → Prop) (dj : PyData) (_ : Md) : Prop := match dj with
  | .int z => ds.length ≤ sizeLine ∧ PopP own ix ds z kk (tg kk)
  | _ => False
def popK (own : AS) (ix : Nat) (j : WE) (kk : PyData → AS → Prop) : AS → Nat → Prop := fun st i => match slot st i with
  | .val (.list ds) (.o 1) => j own (popJ own ix ds kk)
  | _ => False
theorem popK_eq : wPopAt ix v kk st = popK st ix v kk st ix := by
  unfold wPopAt popK
  split
  · rename_i ds h
    have hl : ix < st.length := slot_lt h
    try simp only [h]
    unfold popJ PopP
    refine congrArg _ (funext fun d => funext fun m2 => ?_)
    simp only [putK_eq, eq_true hl, true_and] <;> rfl
  · rename_i h
    first
      | rfl
      | (split
         · rename_i ds h2; exact absurd h2 (h ds)
         · rfl)
theorem r_pop : wS_pop ix v D st = popK st ix v (fun _ st' => D.nx st') st ix := popK_eq
theorem r_setPop : wSetPop iy ix v D st = popK st ix v (fun d st' => putK st' iy (.val d (.o 0)) D.nx) st ix := by
  unfold wSetPop
  rw [popK_eq]
  simp only [putK_eq]
theorem r_pop0 : popK st ix v kk (.val (.list ds) (.o 1) :: r) 0 = v st (popJ st ix ds kk) := rfl
theorem r_popS : popK st ix v kk (q :: r) (j + 1) = popK st ix v kk r j := rfl
theorem r_popJ : popJ st ix ds kk (.int z) md = (ds.length ≤ sizeLine ∧ PopP st ix ds z kk (tg kk)) := rfl
theorem pop_ {t : Tg kk} (p : Nat) (h : ixN ds.length z = some p) (h2 : ds[p]? = some d) (hk : putK st ix (.val (.list (ds.eraseIdx p)) (.o 1)) (kk d)) : PopP st ix ds z kk t := by unfold PopP; rw [h]; simp only [h2]; exact hk
end
end AL

namespace AL
open PySem PySem.Spec PyProof.Rows L2

theorem fp3_mod {R : V → PyData → List Addr → Prop} : ∀ {vs : List V} {ds : List PyData} {fs : List Addr} (p : Nat), Fp3 R vs ds fs → p < ds.length →
    ∃ v d f, vs[p]? = some v ∧ ds[p]? = some d ∧ R v d f ∧ (∀ b ∈ f, b ∈ fs) ∧ (fs.Nodup → f.Nodup) ∧
      ∀ (R' : V → PyData → List Addr → Prop) d' f', R' v d' f' → (∀ v d g, (∀ b ∈ g, b ∈ fs) → (∀ b ∈ g, b ∉ f) → R v d g → R' v d g) → fs.Nodup → f'.Nodup → (∀ b ∈ f', b ∈ f ∨ b ∉ fs) → ∃ fs', Fp3 R' vs (ds.set p d') fs' ∧ fs'.Nodup ∧ ∀ b ∈ fs', b ∈ fs ∨ b ∈ f'
  | _, _, _, _, .nil, h => absurd h (Nat.not_lt_zero _)
  | _, _, _, 0, .cons (f := f) (fs := fs) h t, _ => by
    refine ⟨_, _, f, rfl, rfl, h, fun b hb => List.mem_append_left _ hb, fun n => (List.nodup_append.mp n).1, fun R' d' f' r k n n' hm => ?_⟩
    obtain ⟨a1, a2, a3⟩ := List.nodup_append.mp n
    refine ⟨f' ++ fs, .cons r (t.mono fun v d g s q => k v d g (fun b hb => List.mem_append_right _ (s b hb)) (fun b hb hc => a3 b hc b (s b hb) rfl) q), fp3_nodup_app n' a2 fun x hx hy => ?_, fun b hb => ?_⟩
    · rcases hm x hx with q | q
      · exact a3 x q x hy rfl
      · exact q (List.mem_append_right _ hy)
    · rcases List.mem_append.mp hb with q | q
      · exact .inr q
      · exact .inl (List.mem_append_right _ q)
  | _, _, _, p + 1, .cons (f := f0) (fs := fs) h t, hp => by
    obtain ⟨v, d, f, e1, e2, r, s1, s2, md⟩ := fp3_mod p t (Nat.lt_of_succ_lt_succ hp)
    refine ⟨v, d, f, by simpa using e1, by simpa using e2, r, fun b hb => List.mem_append_right _ (s1 b hb), fun n => s2 (List.nodup_append.mp n).2.1, fun R' d' f' r' k n n' hm => ?_⟩
    obtain ⟨a1, a2, a3⟩ := List.nodup_append.mp n
    obtain ⟨fs', h1, h2, h3⟩ := md R' d' f' r' (fun v d g u w q => k v d g (fun b hb => List.mem_append_right _ (u b hb)) w q) a2 n' fun b hb => (hm b hb).imp id fun q hc => q (List.mem_append_right _ hc)
    refine ⟨f0 ++ fs', by simpa using Fp3.cons (k _ _ _ (fun b hb => List.mem_append_left _ hb) (fun b hb hc => a3 b hb b (s1 b hc) rfl) h) h1, fp3_nodup_app a1 h2 fun x hx hy => ?_, fun b hb => ?_⟩
    · rcases h3 x hy with q | q
      · exact a3 x hx x q rfl
      · rcases hm x q with z | z
        · exact a3 x hx x (s1 x z) rfl
        · exact z (List.mem_append_left _ hx)
    · rcases List.mem_append.mp hb with q | q
      · exact .inl (List.mem_append_left _ q)
      · exact (h3 b q).imp (fun z => List.mem_append_right _ z) id
theorem SR.deep {K : PySem.W.Frag} {B : Option Bx} {F0 H0 Fe He F H : Hp} {σ : L2.St} {st : AS} {i p m : Nat} {ds es : List PyData} (R : SR K B F0 H0 Fe He σ st) (n : NoB st) (x : Ext K B Fe He F H) (hs : slot st i = .val (.list ds) (.o (m + 2))) (hp : ds[p]? = some (.list es)) :
    ∃ a xs b ys fs, σ[i]? = some (some (.ref a)) ∧ H a = some (.lst xs) ∧ xs[p]? = some (.ref b) ∧ H b = some (.lst ys) ∧ Fp3 (Own K F H m) ys es fs ∧ b ∉ fs ∧ fs.Nodup ∧ (∀ c ∈ b :: fs, ∃ o, He c = some o) ∧ (∃ o, He a = some o) ∧ a ≠ b ∧ xs.length = ds.length ∧ nb B a ∧ nb B b ∧
      ∀ ys' es' fs', Fp3 (Own K F (upd H b (.lst ys')) m) ys' es' fs' → fs'.Nodup → b ∉ fs' → (∀ c ∈ fs', c ∈ fs ∨ (He c = none ∧ nb B c)) → SR K B F0 H0 F (upd H b (.lst ys')) σ (put st i (.val (.list (ds.set p (.list es'))) (.o (m + 2)))) := by
  obtain ⟨a, xs, fsA, w1, w2, w3, w4, w5, w6, w7, w8, w9⟩ := R.write n x hs
  have hlt : p < ds.length := (List.getElem?_eq_some_iff.mp hp).1
  obtain ⟨v, d, f, e1, e2, r, s1, s2, md⟩ := fp3_mod p w3 hlt
  rw [hp] at e2
  cases e2
  obtain ⟨b, ys, fs, q1, q2, q3, q4, q5⟩ := r
  subst q1 q5
  have hbA : b ∈ fsA := s1 b (List.mem_cons_self ..)
  have hab : a ≠ b := fun z => w4 (z ▸ hbA)
  have nd := List.nodup_cons.mp (s2 w5)
  refine ⟨a, xs, b, ys, fs, w1, w2, e1, q2, q4, nd.1, nd.2, fun c hc => w6 c (List.mem_cons_of_mem _ (s1 c hc)), w6 a (List.mem_cons_self ..), hab, w3.len, w7, w8 b hbA, fun ys' es' fs' h1 h2 h3 h4 => ?_⟩
  have hmem : ∀ c ∈ b :: fs', c ∈ b :: fs ∨ c ∉ fsA := fun c hc => by
    rcases List.mem_cons.mp hc with z | z
    · exact .inl (z ▸ List.mem_cons_self ..)
    · rcases h4 c z with y | y
      · exact .inl (List.mem_cons_of_mem _ y)
      · refine .inr fun hA => ?_
        obtain ⟨o, ho⟩ := w6 c (List.mem_cons_of_mem _ hA)
        rw [y.1] at ho; cases ho
  obtain ⟨fs2, g1, g2, g3⟩ := md (Own K F (upd H b (.lst ys')) (m + 1)) (.list es') (b :: fs') ⟨b, ys', fs', rfl, upd_same, q3, h1, rfl⟩ (fun v d g u w q => own_upd q fun hb => w b hb (List.mem_cons_self ..)) w5 (List.nodup_cons.mpr ⟨h3, h2⟩) hmem
  refine w9 _ _ fs2 (m + 1) (fun c o hc q => ?_) ⟨xs, by rw [upd_ne hab]; exact w2, g1⟩ g2 fun c hc => ?_
  · rw [upd_ne (show c ≠ b from fun z => hc (List.mem_cons_of_mem _ (z ▸ hbA)))]; exact q
  · rcases g3 c hc with q | q
    · exact .inl q
    · rcases List.mem_cons.mp q with z | z
      · exact .inl (z ▸ hbA)
      · exact (h4 c z).imp (fun y => s1 c (List.mem_cons_of_mem _ y)) id
section
variable {X : Cx} {e ej : Expr} {u v : WE} {pos p1 p2 p3 p4 : Pos}
def wAt_append (i : Nat) (j u : WE) : WS := fun D st => match slot st i with
  | .val (.list ds) (.o (m + 2)) => j st fun dj _ => match dj with
    | .int z => match ixN ds.length z with
      | some p => match ds[p]? with
        | some (.list es) => u st fun d md => eOk m d md = true ∧ es.length < sizeLine ∧ D.nx (put st i (.val (.list (ds.set p (.list (es ++ [d])))) (.o (m + 2))))
        | _ => False
      | none => False
    | _ => False
  | _ => False
theorem ts_at_append (i : Nat) {x : Str} (hj : TrE X ej v) (h : TrE X e u)
    (hm : ∀ {to : TE} {t : TA}, PE X (.Subscript (.Name x p1) ej p4) to → PA X [e] t → PE X (.Call (.Attribute (.Subscript (.Name x p1) ej p4) "append" p2) [e] [] p3) (tBM X.K "list" rAppend to t))
    (hN : X.N[i]? = some x := by rfl) (hv : Vis X.env.scope x := by first | exact Or.inl rfl | exact Or.inr (Or.inl rfl) | exact Or.inr (Or.inr rfl))
    (hd : (x == ("__debug__" : Str)) = false := by decide) (hcd : (x == ("__classdict__" : Str)) = false := by decide) (hix : PlainIx ej := by exact fun _ _ => rfl)
    (hst : starEach [e] X.env = (false, eval e X.env) :: starEach [] X.env := by rfl)
    (hs : swapsWith (.Call (.Attribute (.Subscript (.Name x p1) ej p4) "append" p2) [e] [] p3) none pos.line X.env = pure false := by rfl) :
    TrS X (.Expr (.Call (.Attribute (.Subscript (.Name x p1) ej p4) "append" p2) [e] [] p3) pos) (wAt_append i v u) := by
  obtain ⟨t, p, sd⟩ := h.run
  obtain ⟨tj, pj, sj⟩ := hj.run
  refine ⟨_, ps_expr (hm (pe_ix ix_list (pe_var hN hv hd hcd) pj hix) (pa_cons p pa_nil hst)) hs, fun B F0 H0 F H σ st D D' R n hw k => ?_⟩
  unfold wAt_append at hw
  split at hw
  · rename_i ds m hsl
    obtain ⟨a0, xs0, q1, _, _⟩ := R.recv hsl
    refine ⟨_, q1, sj B F0 H0 F H σ st _ (fun y H2 => rIxL X.K (.ref a0) y H2 _) R hw fun yj F1 H1 dj mj fj x1 r1 n1 hq => ?_⟩
    split at hq
    · rename_i z
      have hz := r1.read x1.wf
      cases hz
      split at hq
      · rename_i p hp
        split at hq
        · rename_i es hes
          obtain ⟨a, xs, b, ys, fs, w1, w2, w3, w4, w5, w6, w7, w8, w8a, w9, w10, w11, w12, _⟩ := R.deep n x1 hsl hes
          rw [q1] at w1
          obtain rfl : a0 = a := by simpa using w1
          refine ⟨a0, xs, z, .ref b, rfl, rfl, SqL.of w2, ?_, .inl ⟨rfl, ys, SqL.of w4⟩, sd B F0 H0 F1 H1 σ st _ _ (R.go x1) hq fun y F2 H2 d md f x2 r2 n2 hq2 => ?_⟩
          · unfold atI
            rw [w10, hp]
            exact w3
          · obtain ⟨hk, hz, hq3⟩ := hq2
            have x12 := x1.trans x2
            have n2' : ∀ a ∈ f, H a = none := fun a ha => x1.old (r2.2.1 a ha) (n2 a ha)
            obtain ⟨F3, g, x3, _, s3, o3, nd, fr, _, _⟩ := r2.item x12 n2' hk
            obtain ⟨a', xs', b', ys', fs', v1, v2, v3, v4, v5, v6, v7, v8, v8a, v9, v10, v11, v12, v13⟩ := R.deep n x3 hsl hes
            rw [q1] at v1
            obtain rfl : a0 = a' := by simpa using v1
            have ex : xs = xs' := by
              have := x2.hh a0 _ w11 w2
              rw [v2] at this
              injection this with this
              injection this with this
              exact this.symm
            subst ex
            rw [w3] at v3
            injection v3 with v3
            injection v3 with v3
            subst v3
            have hbg : b ∉ g := fun hm => by
              obtain ⟨o, ho⟩ := v8 b (List.mem_cons_self ..)
              rw [(fr b hm).2] at ho; cases ho
            have dj : ∀ c ∈ fs', c ∉ g := fun c hc hg => by
              obtain ⟨o, ho⟩ := v8 c (List.mem_cons_of_mem _ hc)
              rw [(fr c hg).2] at ho; cases ho
            refine ⟨b, ys', y, rfl, rfl, v4, by rw [v5.len]; exact hz, k.nx σ F3 _ _ x3.ff (v13 _ _ (fs' ++ (g ++ [])) ((fp3_upd v5 v6).app (.cons (own_upd o3 hbg) .nil)) ?_ ?_ fun c hc => ?_) (noB_put n) hq3⟩
            · rw [List.append_nil]
              exact fp3_nodup_app v7 nd fun c hc hg => dj c hc hg
            · rw [List.append_nil]
              exact fun hc => (List.mem_append.mp hc).elim v6 hbg
            · rw [List.append_nil] at hc
              exact (List.mem_append.mp hc).imp id fun q => ⟨(fr c q).2, (fr c q).1⟩
        · exact hq.elim
      · exact hq.elim
    · exact hq.elim
  · exact hw.elim
def wSetAt2 (i : Nat) (j k u : WE) : WS := fun D st => match slot st i with
  | .val (.list ds) (.o (m + 2)) => u st fun d md => j st fun dj _ => match dj with
    | .int z => match ixN ds.length z with
      | some p => match ds[p]? with
        | some (.list es) => k st fun dk _ => match dk with
          | .int z2 => eOk m d md = true ∧ match ixN es.length z2 with
            | some q => D.nx (put st i (.val (.list (ds.set p (.list (es.set q d)))) (.o (m + 2))))
            | none => False
          | _ => False
        | _ => False
      | none => False
    | _ => False
  | _ => False
theorem ts_setAt2 {ek : Expr} {w : WE} (i : Nat) {x : Str} (h : TrE X e u) (hj : TrE X ej v) (hk : TrE X ek w)
    (hN : X.N[i]? = some x := by rfl) (hv : Vis X.env.scope x := by first | exact Or.inl rfl | exact Or.inr (Or.inl rfl) | exact Or.inr (Or.inr rfl))
    (hd : (x == ("__debug__" : Str)) = false := by decide) (hcd : (x == ("__classdict__" : Str)) = false := by decide) (hix : PlainIx ej := by exact fun _ _ => rfl)
    (ha : ∀ v, assign (.Subscript (.Subscript (.Name x p1) ej p4) ek p2) X.env v = (do
      let ov ← holding [v] (eval (.Subscript (.Name x p1) ej p4) X.env)
      let iv ← holding [v, ov] (eval ek X.env)
      standAt p2
      holding [v, ov, iv] (setItem ov iv v)
      release [v, ov, iv] []) := by intro _; rfl)
    (hs : swapsWithSole [.Subscript (.Subscript (.Name x p1) ej p4) ek p2] e pos.line X.env = pure false := by rfl) (hw : swappedStores [.Subscript (.Subscript (.Name x p1) ej p4) ek p2] e X.env = pure none := by rfl)
    (h1 : (assignEach [.Subscript (.Subscript (.Name x p1) ej p4) ek p2] X.env).map (·.2) = [assign (.Subscript (.Subscript (.Name x p1) ej p4) ek p2) X.env] := by rfl) :
    TrS X (.Assign [.Subscript (.Subscript (.Name x p1) ej p4) ek p2] e pos) (wSetAt2 i v w u) := by
  obtain ⟨t, p, sd⟩ := h.run
  obtain ⟨tj, pj, sj⟩ := hj.run
  obtain ⟨tk, pk, sk⟩ := hk.run
  refine ⟨_, ps_asg p (pg_sub (pe_ix ix_list (pe_var hN hv hd hcd) pj hix) pk set_list ha) hs hw h1, fun B F0 H0 F H σ st D D' R n hw k => ?_⟩
  unfold wSetAt2 at hw
  split at hw
  · rename_i ds m hsl
    refine sd B F0 H0 F H σ st _ _ R hw fun y F1 H1 d md f x1 r1 n1 hq => ?_
    have R1 := R.go x1
    obtain ⟨a0, xs0, q1, _, _⟩ := R1.recv hsl
    refine ⟨_, q1, sj B F0 H0 F1 H1 σ st _ (fun y H2 => rIxL X.K (.ref a0) y H2 _) R1 hq fun yj F2 H2 dj mj fj x2 r2 n2 hq => ?_⟩
    split at hq
    · rename_i z
      have hz := r2.read x2.wf
      cases hz
      split at hq
      · rename_i p hp
        split at hq
        · rename_i es hes
          have x12 := x1.trans x2
          obtain ⟨a, xs, b, ys, fs, w1, w2, w3, w4, w5, w6, w7, w8, w8a, w9, w10, w11, w12, _⟩ := R.deep n x12 hsl hes
          rw [q1] at w1
          obtain rfl : a0 = a := by simpa using w1
          refine ⟨a0, xs, z, .ref b, rfl, rfl, SqL.of w2, ?_, sk B F0 H0 F2 H2 σ st _ (fun y H2 => rSetL (.ref b) y _ H2 _) (R.go x12) hq fun yk F3 H3 dk mk fk x3 r3 n3 hq => ?_⟩
          · unfold atI
            rw [w10, hp]
            exact w3
          · split at hq
            · rename_i z2
              have hz := r3.read x3.wf
              cases hz
              obtain ⟨hk, hq⟩ := hq
              split at hq
              · rename_i q hqq
                have x13 := x12.trans x3
                obtain ⟨F4, g, x4, _, s3, o3, nd, fr, _, _⟩ := (r1.ext (x2.trans x3)).item x13 n1 hk
                obtain ⟨a', xs', b', ys', fs', v1, v2, v3, v4, v5, v6, v7, v8, v8a, v9, v10, v11, v12, v13⟩ := R.deep n x4 hsl hes
                rw [q1] at v1
                obtain rfl : a0 = a' := by simpa using v1
                have ex : xs = xs' := by
                  have := x3.hh a0 _ w11 w2
                  rw [v2] at this
                  injection this with this
                  injection this with this
                  exact this.symm
                subst ex
                rw [w3] at v3
                injection v3 with v3
                injection v3 with v3
                subst v3
                have hbg : b ∉ g := fun hm => by
                  obtain ⟨o, ho⟩ := v8 b (List.mem_cons_self ..)
                  rw [(fr b hm).2] at ho; cases ho
                obtain ⟨fs2, s1, s2, s4⟩ := fp3_set (p := q) v5 o3 (ixN_lt hqq)
                have hb2 : b ∉ fs2 := fun hm => (s2 b hm).elim v6 hbg
                refine ⟨b, ys', z2, q, rfl, rfl, v4, by rw [v5.len]; exact hqq, k.nx σ F4 _ _ x4.ff (v13 _ _ fs2 (fp3_upd s1 hb2) (s4 v7 nd fun c hc hm => ?_) hb2 fun c hc => (s2 c hc).imp id fun q => ⟨(fr c q).2, (fr c q).1⟩) (noB_put n) hq⟩
                obtain ⟨o, ho⟩ := v8 c (List.mem_cons_of_mem _ hm)
                rw [(fr c hc).2] at ho; cases ho
              · exact hq.elim
            · exact hq.elim
        · exact hq.elim
      · exact hq.elim
    · exact hq.elim
  · exact hw.elim
def wS_extend (i : Nat) (u : WE) : WS := fun D st => match slot st i with
  | .val (.list ds) (.o 1) => u st fun d md => match d with
    | .list es => okL es md = true ∧ ds.length + es.length ≤ sizeLine ∧ D.nx (put st i (.val (.list (ds ++ es)) (.o 1)))
    | _ => False
  | _ => False
theorem ts_extend (i : Nat) {x : Str} (h : TrE X e u)
    (hm : ∀ {to : TE} {t : TA}, PE X (.Name x p1) to → PA X [e] t → PE X (.Call (.Attribute (.Name x p1) "extend" p2) [e] [] p3) (tBM X.K "list" rExtend to t))
    (hN : X.N[i]? = some x := by rfl) (hv : Vis X.env.scope x := by first | exact Or.inl rfl | exact Or.inr (Or.inl rfl) | exact Or.inr (Or.inr rfl))
    (hd : (x == ("__debug__" : Str)) = false := by decide) (hcd : (x == ("__classdict__" : Str)) = false := by decide)
    (hst : starEach [e] X.env = (false, eval e X.env) :: starEach [] X.env := by rfl)
    (hs : swapsWith (.Call (.Attribute (.Name x p1) "extend" p2) [e] [] p3) none pos.line X.env = pure false := by rfl) :
    TrS X (.Expr (.Call (.Attribute (.Name x p1) "extend" p2) [e] [] p3) pos) (wS_extend i u) := by
  obtain ⟨t, p, sd⟩ := h.run
  refine ⟨_, ps_expr (hm (pe_var hN hv hd hcd) (pa_cons p pa_nil hst)) hs, fun B F0 H0 F H σ st D D' R n hw k => ?_⟩
  unfold wS_extend at hw
  split at hw
  · rename_i ds hsl
    obtain ⟨a, xs0, q1, q2, _⟩ := R.recv hsl
    refine ⟨_, q1, .inl ⟨rfl, _, SqL.of q2⟩, sd B F0 H0 F H σ st _ _ R hw fun y F1 H1 d md f x1 r1 n1 hq => ?_⟩
    split at hq
    · rename_i es
      obtain ⟨hk, hz, hq⟩ := hq
      obtain ⟨b, zs, e1, h1, ex1, s1, q3⟩ := r1.items hk x1 n1
      obtain ⟨a', xs, fs, w1, w2, w3, w4, w5, w6, w7, w8, w9⟩ := R.write n ex1 hsl
      rw [q1] at w1
      obtain rfl : a = a' := by simpa using w1
      refine ⟨a, b, xs, zs, rfl, by rw [e1], w2, h1, by rw [w3.len, rpAll_len q3]; exact hz, k.nx σ _ _ _ ex1.ff (w9 _ _ (fs ++ []) 0 upd_keep ⟨_, upd_same, (fp3_upd w3 w4).app (fp3_0 q3)⟩ (by simpa using w5) fun c hc => .inl (by simpa using hc)) (noB_put n) hq⟩
    · exact hq.elim
  · exact hw.elim
end
section
variable {st r : AS} {D : AEnds} {Q : QE} {u v w : WE} {i j m n p q : Nat} {z : Int} {ds es : List PyData} {d : PyData} {x : SV} {md md' : Md} {k : AS → Prop}
theorem r_eOkS : eOk (n + 1) d (.o (n + 1)) = true := by simp [eOk]
def exJ (own : AS) (i : Nat) (ds : List PyData) (k : AS → Prop) (d : PyData) (md : Md) : Prop := match d with
  | .list es => okL es md = true ∧ ds.length + es.length ≤ sizeLine ∧ putK own i (.val (.list (ds ++ es)) (.o 1)) k
  | _ => False
def exK (own : AS) (i : Nat) (u : WE) (k : AS → Prop) : AS → Nat → Prop := fun st j => match slot st j with
  | .val (.list ds) (.o 1) => u own (exJ own i ds k)
  | _ => False
theorem r_extend : wS_extend i u D st = exK st i u D.nx st i := by
  unfold wS_extend exK
  split
  · rename_i ds h
    have hl : i < st.length := slot_lt h
    try simp only [h]
    unfold exJ
    simp only [putK_eq, eq_true hl, true_and] <;> rfl
  · rename_i h
    first
      | rfl
      | (split
         · rename_i ds h2; exact absurd h2 (h ds)
         · rfl)
theorem r_ext0 : exK st i u k (.val (.list ds) (.o 1) :: r) 0 = u st (exJ st i ds k) := rfl
theorem r_extS : exK st i u k (x :: r) (j + 1) = exK st i u k r j := rfl
theorem r_exJ : exJ st i ds k (.list es) (.o m) = (ds.length + es.length ≤ sizeLine ∧ putK st i (.val (.list (ds ++ es)) (.o 1)) k) := by simp [exJ, okL]
theorem r_exJb : exJ st i ds k (.list es) .b = (es.all sc = true ∧ ds.length + es.length ≤ sizeLine ∧ putK st i (.val (.list (ds ++ es)) (.o 1)) k) := rfl
def AapP (own : AS) (i : Nat) (ds : List PyData) (m : Nat) (z : Int) (u : WE) (k : AS → Prop) (_ : Tg k) : Prop := match ixN ds.length z with
  | some p => match ds[p]? with
    | some (.list es) => u own fun d md => eOk m d md = true ∧ es.length < sizeLine ∧ putK own i (.val (.list (ds.set p (.list (es ++ [d])))) (.o (m + 2))) k
    | _ => False
  | none => False
def aaJ (own : AS) (i : Nat) (ds : List PyData) (m : Nat) (u : WE) (k : AS → Prop) (dj : PyData) (_ : Md) : Prop := match dj with
  | .int z => AapP own i ds m z u k (tg k)
  | _ => False
def aaK (own : AS) (i : Nat) (v u : WE) (k : AS → Prop) : AS → Nat → Prop := fun st j => match slot st j with
  | .val (.list ds) (.o (m + 2)) => v own (aaJ own i ds m u k)
  | _ => False
theorem r_aap : wAt_append i v u D st = aaK st i v u D.nx st i := by
  unfold wAt_append aaK
  split
  · rename_i ds m h
    have hl : i < st.length := slot_lt h
    try simp only [h]
    refine congrArg _ (funext fun d => funext fun m2 => ?_)
    unfold aaJ AapP
    simp only [putK_eq, eq_true hl, true_and] <;> rfl
  · rename_i h
    first
      | rfl
      | (split
         · rename_i ds m h2; exact absurd h2 (h ds m)
         · rfl)
theorem r_aa0 : aaK st i v u k (.val (.list ds) (.o (m + 2)) :: r) 0 = v st (aaJ st i ds m u k) := rfl
theorem r_aaS : aaK st i v u k (x :: r) (j + 1) = aaK st i v u k r j := rfl
theorem r_aaJ : aaJ st i ds m u k (.int z) md = AapP st i ds m z u k (tg k) := rfl
theorem aap_ {t : Tg k} (p : Nat) (es : List PyData) (h : ixN ds.length z = some p) (h2 : ds[p]? = some (.list es)) (hk : u st fun d md => eOk m d md = true ∧ es.length < sizeLine ∧ putK st i (.val (.list (ds.set p (.list (es ++ [d])))) (.o (m + 2))) k) : AapP st i ds m z u k t := by unfold AapP; rw [h]; simp only [h2]; exact hk
def S2Q (own : AS) (i : Nat) (ds : List PyData) (m p : Nat) (es : List PyData) (d : PyData) (z2 : Int) (k : AS → Prop) (_ : Tg k) : Prop := match ixN es.length z2 with
  | some q => putK own i (.val (.list (ds.set p (.list (es.set q d)))) (.o (m + 2))) k
  | none => False
def s2J2 (own : AS) (i : Nat) (ds : List PyData) (m p : Nat) (es : List PyData) (d : PyData) (md : Md) (k : AS → Prop) (dk : PyData) (_ : Md) : Prop := match dk with
  | .int z2 => eOk m d md = true ∧ S2Q own i ds m p es d z2 k (tg k)
  | _ => False
def S2P (own : AS) (i : Nat) (ds : List PyData) (m : Nat) (z : Int) (w : WE) (d : PyData) (md : Md) (k : AS → Prop) (_ : Tg k) : Prop := match ixN ds.length z with
  | some p => match ds[p]? with
    | some (.list es) => w own (s2J2 own i ds m p es d md k)
    | _ => False
  | none => False
def s2J (own : AS) (i : Nat) (ds : List PyData) (m : Nat) (w : WE) (d : PyData) (md : Md) (k : AS → Prop) (dj : PyData) (_ : Md) : Prop := match dj with
  | .int z => S2P own i ds m z w d md k (tg k)
  | _ => False
def s2K (own : AS) (i : Nat) (v w u : WE) (k : AS → Prop) : AS → Nat → Prop := fun st j => match slot st j with
  | .val (.list ds) (.o (m + 2)) => u own fun d md => v own (s2J own i ds m w d md k)
  | _ => False
theorem r_s2 : wSetAt2 i v w u D st = s2K st i v w u D.nx st i := by
  unfold wSetAt2 s2K
  split
  · rename_i ds m h
    have hl : i < st.length := slot_lt h
    try simp only [h]
    refine congrArg _ (funext fun d => funext fun m2 => congrArg _ (funext fun dj => funext fun m3 => ?_))
    unfold s2J S2P s2J2 S2Q
    simp only [putK_eq, eq_true hl, true_and] <;> rfl
  · rename_i h
    first
      | rfl
      | (split
         · rename_i ds m h2; exact absurd h2 (h ds m)
         · rfl)
theorem r_s20 : s2K st i v w u k (.val (.list ds) (.o (m + 2)) :: r) 0 = u st fun d md => v st (s2J st i ds m w d md k) := rfl
theorem r_s2S : s2K st i v w u k (x :: r) (j + 1) = s2K st i v w u k r j := rfl
theorem r_s2J : s2J st i ds m w d md k (.int z) md' = S2P st i ds m z w d md k (tg k) := rfl
theorem r_s2J2 : s2J2 st i ds m p es d md k (.int z) md' = (eOk m d md = true ∧ S2Q st i ds m p es d z k (tg k)) := rfl
theorem sat2_ {t : Tg k} (p : Nat) (es : List PyData) (h : ixN ds.length z = some p) (h2 : ds[p]? = some (.list es)) (hk : w st (s2J2 st i ds m p es d md k)) : S2P st i ds m z w d md k t := by unfold S2P; rw [h]; simp only [h2]; exact hk
theorem sat2q_ {t : Tg k} (q : Nat) (h : ixN es.length z = some q) (hk : putK st i (.val (.list (ds.set p (.list (es.set q d)))) (.o (m + 2))) k) : S2Q st i ds m p es d z k t := by unfold S2Q; rw [h]; exact hk
end
end AL

namespace AL
open PySem PySem.Spec PyProof.Rows L2

def wM2 (a : PyData → PyData → PyData → QE → Prop) (u v w : WE) : WE := fun st Q => u st fun d1 _ => (∃ z, d1 = .str z) ∧ v st fun d2 _ => w st fun d3 _ => a d1 d2 d3 Q
def aStarts3 (d1 d2 d3 : PyData) (Q : QE) : Prop := match d1, d2, d3 with
  | .str x, .str y, .int i => Q (.bool (Txt.startswith3 x y i)) (.o 0)
  | _, _, _ => False
def rStarts3 : V → List V → Hp → VK → Prop := fun x xs H Q => ∃ (a b : Str) (i : Int), x = .str a ∧ xs = [.str b, .int i] ∧ Q (.bl (Txt.startswith3 a b i)) H
section
variable {X : Cx} {o e e2 : Expr} {u v w : WE} {apos pos : Pos}
theorem te_m_startswith3 (h1 : TrE X o u) (h2 : TrE X e v) (h3 : TrE X e2 w)
    (hm : ∀ {to : TE} {t : TA}, PE X o to → PA X [e, e2] t → PE X (.Call (.Attribute o "startswith" apos) [e, e2] [] pos) (tBM X.K "str" rStarts3 to t))
    (hst : starEach [e, e2] X.env = (false, eval e X.env) :: starEach [e2] X.env := by rfl) (hst2 : starEach [e2] X.env = (false, eval e2 X.env) :: starEach [] X.env := by rfl) :
    TrE X (.Call (.Attribute o "startswith" apos) [e, e2] [] pos) (wM2 aStarts3 u v w) := by
  obtain ⟨t1, p1, s1⟩ := h1.run
  obtain ⟨t2, p2, s2⟩ := h2.run
  obtain ⟨t3, p3, s3⟩ := h3.run
  refine ⟨_, hm p1 (pa_cons p2 (pa_cons p3 pa_nil hst2) hst), fun B F0 H0 F H σ st Q Q' R hw k => s1 B F0 H0 F H σ st _ _ R hw fun x F1 H1 d md f x1 r1 n1 hq => ?_⟩
  obtain ⟨⟨z, rfl⟩, hq⟩ := hq
  have hz := r1.read x1.wf
  cases hz
  refine ⟨rfl, s2 B F0 H0 F1 H1 σ st _ _ (R.go x1) hq fun y F2 H2 d2 m2 f2 x2 r2 n2 hq2 => s3 B F0 H0 F2 H2 σ st _ _ (R.go (x1.trans x2)) hq2 fun y3 F3 H3 d3 m3 f3 x3 r3 n3 hq3 => ?_⟩
  unfold aStarts3 at hq3
  split at hq3
  · rename_i h1
    cases h1
    have hy := (r2.ext x3).read x3.wf
    cases hy
    have hy3 := r3.read x3.wf
    cases hy3
    exact ⟨_, _, _, rfl, rfl, k _ F3 H3 _ (.o 0) [] ((x1.trans x2).trans x3) (.of (.bl _)) (fun _ h => by simp at h) hq3⟩
  · exact hq3.elim
end
section
variable {st : AS} {Q : QE} {u v w : WE} {x y z : Str} {i : Int} {md md' : Md} {d2 d3 : PyData}
def m2K (a : PyData → PyData → PyData → QE → Prop) (v w : WE) (st : AS) (Q : QE) (d1 : PyData) (_ : Md) : Prop := (∃ z, d1 = .str z) ∧ v st fun d2 _ => w st fun d3 _ => a d1 d2 d3 Q
theorem r_wM2 {a : PyData → PyData → PyData → QE → Prop} : wM2 a u v w st Q = u st (m2K a v w st Q) := rfl
theorem r_m2K {a : PyData → PyData → PyData → QE → Prop} : m2K a v w st Q (.str z) md = v st fun d2 _ => w st fun d3 _ => a (.str z) d2 d3 Q := propext ⟨fun h => h.2, fun h => ⟨⟨z, rfl⟩, h⟩⟩
theorem r_starts3 : aStarts3 (.str x) (.str y) (.int i) Q = Q (.bool (Txt.startswith3 x y i)) (.o 0) := rfl
end
section
variable {st : AS} {c : WT} {u : WE} {ds : List PyData} {md : Md}
theorem cmp_i {vs : List Nat} {kd : Option Nat} {g : WG} {P : List PyData → Prop} {t : Tg P} (I : Nat → List PyData → Prop) (h0 : I 0 [])
    (hs : ∀ i d acc, ds[i]? = some d → I i acc → wipK vs st fun s => g d (itm md) s fun st2 => c st2 fun k => br k (u st2 fun r mr => eAcc kd r mr = true ∧ acc.length < sizeLine ∧ I (i + 1) (acc ++ [r])) (I (i + 1) acc)) (hq : ∀ acc, I ds.length acc → P acc) : CmpP kd vs g c u st P ds md t := by
  refine ⟨I, h0, fun i d acc h hI => ?_, hq⟩
  refine cast ?_ (wipK_eq _ _ _ (hs i d acc h hI))
  refine congrArg _ (funext fun st2 => congrArg _ (funext fun k => ?_))
  cases k <;> rfl
theorem cmp_each {vs : List Nat} {kd : Option Nat} {g : WG} {P : List PyData → Prop} {t : Tg P} (R : PyData → Prop) (hl : ds.length ≤ sizeLine)
    (hs : ∀ d ∈ ds, ∀ (K : PyData → Prop) (N : Prop), (∀ r, R r → K r) → wipK vs st fun s => g d (itm md) s fun st2 => c st2 fun k => br k (u st2 fun r mr => eAcc kd r mr = true ∧ K r) N) (hq : ∀ acc, acc.length = ds.length → (∀ r ∈ acc, R r) → P acc) : CmpP kd vs g c u st P ds md t := by
  refine cmp_i (fun i acc => acc.length = i ∧ ∀ r ∈ acc, R r) ⟨rfl, by simp⟩ (fun i d acc h hI => ?_) fun acc h => hq acc h.1 h.2
  have hi : i < ds.length := (List.getElem?_eq_some_iff.mp h).1
  exact hs d (List.mem_of_getElem? h) (fun r => acc.length < sizeLine ∧ (acc ++ [r]).length = i + 1 ∧ ∀ x ∈ acc ++ [r], R x) (acc.length = i + 1 ∧ ∀ r ∈ acc, R r) fun r hr => ⟨by omega, by rw [List.length_append, hI.1]; rfl, fun x hx => by
    rcases List.mem_append.mp hx with q | q
    · exact hI.2 x q
    · rw [List.mem_singleton.mp q]; exact hr⟩
end
end AL

namespace AL
open PySem PySem.Spec PyProof.Rows L2

def okS (z : Str) : Prop := ∀ c ∈ z.cps.toList, c < 128
theorem okS_strOk {z : Str} (h : okS z) : PyData.strOk z = true := by
  unfold PyData.strOk
  rw [Array.all_eq_true']
  intro c hc
  exact decide_eq_true (Nat.lt_trans (h c (Array.mem_toList_iff.mpr hc)) (by decide))
theorem okS_cut {z : Str} {lo hi : Option Int} (h : okS z) : okS (cutS z lo hi) := by
  intro c hc
  unfold cutS at hc
  rw [List.toList_toArray] at hc
  exact h c (List.mem_of_mem_drop (List.mem_of_mem_take hc))
theorem cutS_len {z : Str} {lo hi : Option Int} : (cutS z lo hi).length ≤ z.length := by
  have e : (cutS z lo hi).length = (cutS z lo hi).cps.toList.length := by simp [Str.length]
  have e2 : z.length = z.cps.toList.length := by simp [Str.length]
  rw [e, e2]
  unfold cutS
  rw [List.toList_toArray, List.length_take, List.length_drop]
  omega
theorem cutS_to {z : Str} {k : Nat} : (cutS z none (some (k : Int))).length ≤ k := by
  have e : (cutS z none (some (k : Int))).length = (cutS z none (some (k : Int))).cps.toList.length := by simp [Str.length]
  rw [e]
  unfold cutS
  rw [List.toList_toArray, List.length_take, HT.sIx_nat, HT.sIx_none]
  omega
theorem okS_repr {z : Str} (h : okS z) : (reprText z).length ≤ 10 * z.length + 2 := PySem.StrLaws.reprText_len z fun c hc => Nat.lt_trans (h c hc) (by decide)
theorem mem_foldl {x : Array Nat} : ∀ (k : Nat) (a : Array Nat) (c : Nat), c ∈ ((List.replicate k x).foldl (· ++ ·) a).toList → c ∈ a.toList ∨ c ∈ x.toList
  | 0, a, c, h => .inl h
  | k + 1, a, c, h => by
    rw [List.replicate_succ, List.foldl_cons] at h
    rcases mem_foldl k _ c h with q | q
    · rw [Array.toList_append, List.mem_append] at q
      exact q
    · exact .inr q
theorem okS_mul {z : Str} {n : Int} (h : okS z) : okS (Txt.mul z n) := by
  unfold Txt.mul
  split
  · intro c hc; exact absurd hc (by simp [Str.empty])
  · split
    · exact h
    · intro c hc
      rcases mem_foldl _ _ c hc with q | q
      · simp at q
      · exact h c q
theorem mul_ok {z : Str} {n : Nat} (h : z.length ≤ 2000) (hn : n ≤ 2000) : PySem.MulOk z (n : Int) := by
  refine ⟨?_, fun h1 h2 h3 => ?_, fun h1 h2 => ?_⟩
  · rw [Bool.or_eq_false_iff]
    exact ⟨decide_eq_false (by omega), decide_eq_false (by omega)⟩
  · have h4 : z.length * n ≤ 2000 * 2000 := Nat.mul_le_mul h hn
    have h5 : (z.length : Int) * (n : Int) ≤ 2 ^ 63 - 1 := by
      rw [← Int.natCast_mul]
      omega
    have h6 : (z.length : Int) ≤ (2 ^ 63 - 1) / (n : Int) := Int.le_ediv_of_mul_le (by omega) h5
    omega
  · have h4 : z.length * n ≤ 2000 * 2000 := Nat.mul_le_mul h hn
    rw [Int.toNat_natCast]
    unfold Builtin.Str.tooLong
    refine decide_eq_false ?_
    show ¬ z.length * n > 16777216
    omega
theorem join_nil (ys : List Str) : (Txt.join (Str.ofString "") ys).cps.toList = (ys.map fun y => y.cps.toList).flatten := by
  rw [TL.join_eq]
  show TL.tl (Str.join _ ys) = _
  rw [TL.tl_join]
  have e : TL.tl (Str.ofString "") = [] := rfl
  rw [e]
  have : ∀ l : List (List Nat), TL.joinL [] l = l.flatten := by
    intro l
    induction l with
    | nil => rfl
    | cons x r ih =>
      cases r with
      | nil => simp [TL.joinL]
      | cons y r => rw [TL.joinL, ih]; simp
  exact this _
theorem join_len (ys : List Str) : (Txt.join (Str.ofString "") ys).length = (ys.map (·.length)).sum := by
  have e : ∀ z : Str, z.length = z.cps.toList.length := fun z => by simp [Str.length]
  rw [e, join_nil, List.length_flatten, List.map_map]
  exact congrArg List.sum (List.map_congr_left fun y _ => (e y).symm)
theorem okS_join {ys : List Str} (h : ∀ y ∈ ys, okS y) : okS (Txt.join (Str.ofString "") ys) := by
  intro c hc
  rw [join_nil] at hc
  obtain ⟨l, hl, hc⟩ := List.mem_flatten.mp hc
  obtain ⟨y, hy, rfl⟩ := List.mem_map.mp hl
  exact h y hy c hc
theorem strs_of {R : Str → Prop} : ∀ {acc : List PyData}, (∀ r ∈ acc, ∃ y, r = .str y ∧ R y) → ∃ ys : List Str, acc = ys.map .str ∧ ys.length = acc.length ∧ ∀ y ∈ ys, R y
  | [], _ => ⟨[], rfl, rfl, by simp⟩
  | r :: acc, h => by
    obtain ⟨y, rfl, hy⟩ := h r (List.mem_cons_self ..)
    obtain ⟨ys, rfl, h2, h3⟩ := strs_of fun r hr => h r (List.mem_cons_of_mem _ hr)
    exact ⟨y :: ys, rfl, by simp, fun z hz => by
      rcases List.mem_cons.mp hz with rfl | hz
      · exact hy
      · exact h3 z hz⟩
theorem sum_ones : ∀ {ys : List Str}, (∀ y ∈ ys, y.length = 1) → (ys.map (·.length)).sum = ys.length
  | [], _ => rfl
  | y :: ys, h => by
    rw [List.map_cons, List.sum_cons, sum_ones fun z hz => h z (List.mem_cons_of_mem _ hz), h y (List.mem_cons_self ..), List.length_cons]
    omega
end AL

namespace AL
open PySem PySem.Spec PyProof.Rows L2
theorem sIx_n {n d k : Nat} : HT.sIx n d (some (k : Int)) = min k n := HT.sIx_nat _ _ _
theorem cut_nn {α : Type} {xs : List α} {a b : Nat} : cut xs (some (a : Int)) (some (b : Int)) = (xs.take b).drop a := by
  unfold cut
  rw [sIx_n, sIx_n, List.drop_take]
  by_cases h : a ≤ xs.length
  · rw [Nat.min_eq_left h]
    by_cases h2 : b ≤ xs.length
    · rw [Nat.min_eq_left h2]
    · rw [Nat.min_eq_right (by omega), List.take_of_length_le (by simp), List.take_of_length_le (by simp; omega)]
  · rw [Nat.min_eq_right (show xs.length ≤ a by omega), List.drop_length, List.drop_of_length_le (show xs.length ≤ a by omega)]
    simp
theorem cut_to {α : Type} {xs : List α} {b : Nat} : cut xs none (some (b : Int)) = xs.take b := by
  have := cut_nn (xs := xs) (a := 0) (b := b)
  rw [List.drop_zero] at this
  rw [← this]
  unfold cut
  rw [HT.sIx_none, sIx_n (d := 0)]
  simp
theorem cut_from {α : Type} {xs : List α} {a : Nat} : cut xs (some (a : Int)) none = xs.drop a := by
  unfold cut
  rw [HT.sIx_none, sIx_n]
  by_cases h : a ≤ xs.length
  · rw [Nat.min_eq_left h, List.take_of_length_le (by simp)]
  · rw [Nat.min_eq_right (show xs.length ≤ a by omega), List.drop_length, List.drop_of_length_le (show xs.length ≤ a by omega)]
    simp
theorem cut_1 {α : Type} {x : α} {xs : List α} : cut (x :: xs) (some 1) none = xs := cut_from (xs := x :: xs) (a := 1)
theorem cut_1a {α : Type} {x : α} {xs : List α} : cut ([x] ++ xs) (some 1) none = xs := cut_1
theorem cut_map {α β : Type} {f : α → β} {xs : List α} {lo hi : Option Int} : cut (xs.map f) lo hi = (cut xs lo hi).map f := by
  unfold cut
  rw [List.length_map, List.map_take, List.map_drop]
theorem cut_sub {α : Type} {xs : List α} {lo hi : Option Int} {x : α} (h : x ∈ cut xs lo hi) : x ∈ xs := List.mem_of_mem_drop (List.mem_of_mem_take h)
theorem cut_len {α : Type} {xs : List α} {lo hi : Option Int} : (cut xs lo hi).length ≤ xs.length := by
  unfold cut
  rw [List.length_take, List.length_drop]
  omega
def hd (xs : List Int) (j : Nat) : Int := (xs.take j).sum
theorem hd_0 {xs : List Int} : hd xs 0 = 0 := rfl
theorem hd_s {xs : List Int} {j : Nat} {x : Int} (h : xs[j]? = some x) : hd xs (j + 1) = hd xs j + x := by
  unfold hd
  rw [List.take_add_one, h]
  simp
theorem hd_end {xs : List Int} {j : Nat} (h : xs.length ≤ j) : hd xs j = xs.sum := by
  unfold hd
  rw [List.take_of_length_le h]
theorem sum_seg {xs : List Int} {a b : Nat} (h : a ≤ b) : ((xs.take b).drop a).sum = hd xs b - hd xs a := by
  have e : xs.take b = xs.take a ++ (xs.take b).drop a := by
    have := (List.take_append_drop a (xs.take b)).symm
    rwa [List.take_take, Nat.min_eq_left h] at this
  have e2 : hd xs b = hd xs a + ((xs.take b).drop a).sum := by
    unfold hd
    conv => lhs; rw [e]
    rw [List.sum_append]
  omega
theorem sum_nonneg {xs : List Int} (h : ∀ x ∈ xs, 0 ≤ x) : 0 ≤ xs.sum := by
  induction xs with
  | nil => simp
  | cons x r ih =>
    have := h x (by simp)
    have := ih fun y hy => h y (by simp [hy])
    rw [List.sum_cons]; omega
theorem sum_bd {xs : List Int} {c : Int} (h : ∀ x ∈ xs, x ≤ c) : xs.sum ≤ xs.length * c := by
  induction xs with
  | nil => simp
  | cons x r ih =>
    have h1 := h x (by simp)
    have h2 := ih fun y hy => h y (by simp [hy])
    rw [List.sum_cons, List.length_cons, Int.natCast_add, Int.add_mul]
    simp only [Int.natCast_one, Int.one_mul]
    omega
theorem hd_mono {xs : List Int} (h : ∀ x ∈ xs, 0 ≤ x) {a b : Nat} (l : a ≤ b) : hd xs a ≤ hd xs b := by
  have h1 := sum_seg (xs := xs) l
  have h2 : 0 ≤ ((xs.take b).drop a).sum := sum_nonneg fun x hx => h x (List.mem_of_mem_take (List.mem_of_mem_drop hx))
  omega
theorem hd_bd {xs : List Int} (h : ∀ x ∈ xs, 0 ≤ x) (j : Nat) : 0 ≤ hd xs j ∧ hd xs j ≤ xs.sum := by
  have h1 := hd_mono h (show 0 ≤ j by omega)
  have h2 := hd_mono h (show j ≤ max j xs.length by omega)
  rw [hd_end (show xs.length ≤ max j xs.length by omega)] at h2
  exact ⟨h1, h2⟩
theorem maxI_eq {xs : List Int} {m : Int} (h : m ∈ xs) (h2 : ∀ x ∈ xs, x ≤ m) : maxI xs = m :=
  Int.le_antisymm (h2 _ (maxI_mem (List.ne_nil_of_mem h))) (maxI_ge _ h)
theorem minI_eq {xs : List Int} {m : Int} (h : m ∈ xs) (h2 : ∀ x ∈ xs, m ≤ x) : minI xs = m :=
  Int.le_antisymm (minI_le _ h) (h2 _ (minI_mem (List.ne_nil_of_mem h)))
theorem get_int {xs : List Int} {i : Nat} {d : PyData} (h : (xs.map PyData.int)[i]? = some d) : ∃ x, xs[i]? = some x ∧ d = .int x := by
  rw [List.getElem?_map] at h
  cases e : xs[i]? with
  | none => rw [e] at h; cases h
  | some x => rw [e] at h; cases h; exact ⟨x, rfl, rfl⟩
theorem take_succ' {α : Type} {xs : List α} {i : Nat} {x : α} (h : xs[i]? = some x) : xs.take (i + 1) = xs.take i ++ [x] := by
  rw [List.take_add_one, h]; rfl
theorem getElem?_lt {α : Type} {xs : List α} {i : Nat} {x : α} (h : xs[i]? = some x) : i < xs.length := (List.getElem?_eq_some_iff.mp h).1
theorem rgD_nat {n : Nat} : rgD 0 (n : Int) = (List.range n).map fun i : Nat => .int i := by
  unfold rgD
  rw [show ((n : Int) - 0).toNat = n by omega]
  exact List.map_congr_left fun i _ => by rw [Int.zero_add]
theorem rngs_nat {n : Nat} : rngs 0 1 n = (List.range n).map fun i : Nat => .int i := by
  unfold rngs
  exact List.map_congr_left fun i _ => by rw [Int.zero_add, Int.mul_one]
theorem ixN_k {n k : Nat} (h : k < n) : ixN n (k : Int) = some k := by
  unfold ixN
  rw [if_pos (by omega), if_pos (by omega)]
  rfl
theorem atI_some {α : Type} {xs : List α} {i : Int} (h0 : 0 ≤ i) (h : i < xs.length) : ∃ x, xs[i.toNat]? = some x ∧ atI xs i = some x := by
  obtain ⟨k, rfl⟩ := Int.eq_ofNat_of_zero_le h0
  rw [atI_k]
  exact ⟨xs[k], by rw [Int.toNat_natCast]; exact List.getElem?_eq_getElem (by omega), List.getElem?_eq_getElem (by omega)⟩
theorem nbd_ints (xs : List Int) : nbd (.list (xs.map .int)) = true := by
  rw [nbd]
  exact nbdAll_iff.mpr fun d hd => by
    obtain ⟨x, _, rfl⟩ := List.mem_map.mp hd
    simp [nbd]
theorem shp_ints (xs : List Int) : Shp 1 (.list (xs.map .int)) := Shp.list (n := 0) fun d hd => by
  obtain ⟨x, _, rfl⟩ := List.mem_map.mp hd
  exact Shp.int
theorem dEq_self {d : PyData} (h : nbd d = true) : dEq d d = true := (dEq_nbd h h).mpr rfl
theorem ints_inj {xs ys : List Int} (h : xs.map PyData.int = ys.map .int) : xs = ys := by
  have := congrArg (List.map fun d => match d with | PyData.int i => i | _ => 0) h
  simpa [List.map_map, Function.comp_def] using this
theorem sc_ints (xs : List Int) : (xs.map PyData.int).all sc = true := allsc fun _ => rfl
theorem acc_of {α : Type} {f : α → PyData} {P : α → Prop} : ∀ {acc : List PyData}, (∀ r ∈ acc, ∃ x, P x ∧ r = f x) → ∃ xs : List α, acc = xs.map f ∧ xs.length = acc.length ∧ ∀ x ∈ xs, P x
  | [], _ => ⟨[], rfl, rfl, by simp⟩
  | r :: acc, h => by
    obtain ⟨x, hx, rfl⟩ := h r (List.mem_cons_self ..)
    obtain ⟨xs, rfl, h2, h3⟩ := acc_of fun r hr => h r (List.mem_cons_of_mem _ hr)
    exact ⟨x :: xs, rfl, by simp, fun z hz => by
      rcases List.mem_cons.mp hz with rfl | hz
      · exact hx
      · exact h3 z hz⟩
theorem zipD_map {α β : Type} {f : α → PyData} {g : β → PyData} : ∀ {xs : List α} {ys : List β}, zipD (xs.map f) (ys.map g) = (List.zip xs ys).map fun p => .tuple [f p.1, g p.2]
  | [], _ => rfl
  | _ :: _, [] => rfl
  | x :: xs, y :: ys => by
    show PyData.tuple [f x, g y] :: zipD (xs.map f) (ys.map g) = _
    rw [zipD_map]
    rfl
theorem rng_getD (l : List Int) : (List.range l.length).map (fun k => PyData.int (l.getD k 0)) = l.map .int := by
  apply List.ext_getElem
  · simp
  · intro i h1 h2
    simp at h1 h2
    simp [List.getD_eq_getElem?_getD, h1]
theorem rep_flat {α : Type} {x : α} : ∀ n : Nat, (List.replicate n [x]).flatten = List.replicate n x
  | 0 => rfl
  | n + 1 => by rw [List.replicate_succ, List.flatten_cons, rep_flat n]; rfl
end AL

namespace AL
open PySem PySem.Spec PyProof.Rows L2
section
variable {X : Cx}
def rSumT (K : PySem.W.Frag) : List V → Hp → VK → Prop := fun vs H Q => ∃ (a : Addr) (ns : List Int), vs = [V.ref a] ∧ SqT K H a (ns.map V.int) ∧ Q (.int ns.sum) H
theorem cr_sumT (hc : X.calm = true) : CallR X (.builtin "sum") (rSumT X.K) := by
  intro pins s σ H vs us Q I r h
  obtain ⟨a, ns, rfl, hs, q⟩ := h
  obtain ⟨its, rv, hl, _⟩ := I.tuple hs
  rw [Vals.ref1 r]
  have hi := rv.ints
  obtain ⟨xs, hx⟩ := hi.allInts.items
  have hn : numsOf its.toArray.toList = ns := by rw [show its.toArray.toList = its from rfl, hi.numsOf]
  have hl2 : s.heap.IsTuple a its.toArray := hl
  rw [hx] at hn hl2
  rw [nums_intItems] at hn
  refine PySem.W.ktm_sumG (I.ok.hd hc) hl2 fun h' tk t' hk => ⟨.int _, H, I.kept hk, ⟨t', ?_⟩, q⟩
  rw [preSum_eq, List.take_of_length_le (by simp), hn]
def aSumA : Fn1 := fun d _ Q => match d with
  | .list ds => ∃ ns : List Int, ds = ns.map .int ∧ Q (.int ns.sum) (.o 0)
  | .tuple ds => ∃ ns : List Int, ds = ns.map .int ∧ Q (.int ns.sum) (.o 0)
  | _ => False
theorem rpT_era {K : PySem.W.Frag} {B : Option Bx} {H : Hp} {a : Addr} {vs : List V} (h : SqT K (era B H) a vs) : SqT K H a vs := rp_mono.seqT era_sub h
theorem ca_sumA : CallA X (fun vs H Q => rSum X.K vs H Q ∨ rSumT X.K vs H Q) aSumA := by
  refine ca_read fun B F H x d m Q Q' w h hw k => ?_
  unfold aSumA at hw
  split at hw
  · obtain ⟨ns, e, hq⟩ := hw
    subst e
    cases h with
    | lst h1 h2 =>
      have e := rpAll_intsV h2
      subst e
      exact .inl ⟨_, ns, rfl, SqL.of (era_of h1).1, k _ _ (fun _ => .int _) hq⟩
  · obtain ⟨ns, e, hq⟩ := hw
    subst e
    cases h with
    | tup h1 h2 =>
      have e := rpAll_intsV h2
      subst e
      exact .inr ⟨_, ns, rfl, rpT_era h1, k _ _ (fun _ => .int _) hq⟩
  · exact hw.elim
theorem te_sumA {e : Expr} {u : WE} {p pos : Pos} (hc : X.calm = true) (h : TrE X e u) (hg : Gl X "sum") (hm : X.mg "sum" = none) (hst : starEach [e] X.env = (false, eval e X.env) :: starEach [] X.env := by rfl) : TrE X (.Call (.Name "sum" p) [e] [] pos) (w1 aSumA u) :=
  te_c1 (fun q => pe_callB ((cr_sum hc).or (cr_sumT hc)) hg hm (by decide +kernel) q (by decide) (by decide) hst rfl) ca_sumA h hst
def minDs : List PyData → PyData
  | [] => .none
  | x :: xs => PySem.W.minD x xs
def maxDs : List PyData → PyData
  | [] => .none
  | x :: xs => PySem.W.maxD x xs
def MinOk (ds : List PyData) : Prop := PySem.W.AlikeAll ds ∧ ds ≠ [] ∧ ∀ d ∈ ds, Shp 8 d
def rMinX (K : PySem.W.Frag) (best : List PyData → PyData) : List V → Hp → VK → Prop := fun vs H Q => ∃ (a : Addr) (xs : List V) (ds : List PyData), vs = [V.ref a] ∧ (SqL K H a xs ∨ SqT K H a xs) ∧ DpAll K H xs ds ∧ MinOk ds ∧
  ∀ (i : Nat) (v : V), xs[i]? = some v → ds[i]? = some (best ds) → Q v H
theorem depth_all {ds : List PyData} {n : Nat} (h : ∀ d ∈ ds, d.depth ≤ n) : PyData.depthAll ds ≤ n := by
  induction ds with
  | nil => simp [PyData.depthAll]
  | cons d ds ih =>
    rw [PyData.depthAll]
    exact Nat.max_le.mpr ⟨h d (by simp), ih fun x hx => h x (by simp [hx])⟩
theorem best_at {h h' : Heap} {its : List Value} {ds : List PyData} {as bs : List Addr} {i : Nat} {v : Value} {d : PyData} (hr : ReadsAll h its ds as) (hs : ∀ d ∈ ds, Shp 8 d) (hk : ∀ b o, h.get? b = some o → h'.get? b = some o) (hv : its[i]? = some v) (r : Reads h' v d bs) : ds[i]? = some d := by
  obtain ⟨bs', r', hi, hm, _⟩ := PySem.W.readsAll_at hr i v hv
  have r2 := PySem.W.reads_keeps hk r'
  have e := (PySem.Reads.unique r2 _ _ r).1
  rw [List.getElem?_eq_getElem hi, ← e, List.getD_eq_getElem?_getD, List.getElem?_eq_getElem hi]
  rfl
theorem cr_minX (hc : X.calm = true) (hu : X.A.units + 64 < cLine) : CallR X (.builtin "min") (rMinX X.K minDs) := by
  intro pins s σ H vs us Q I r h
  obtain ⟨a, xs, ds, rfl, hs, hd, ⟨ha, hne, hdp⟩, q⟩ := h
  rw [Vals.ref1 r]
  obtain ⟨d0, dr, rfl⟩ : ∃ d0 dr, ds = d0 :: dr := by cases ds with | nil => exact absurd rfl hne | cons x r => exact ⟨x, r, rfl⟩
  have hdep := depth_all (n := 8) fun d hd => (hdp d hd).2
  have fin : ∀ (its : List Value) (as : List Addr), Vals xs its → ReadsAll s.heap its (d0 :: dr) as → ∀ (i : Nat) v h' tk bs, its[i]? = some v → Reads h' v (PySem.W.minD d0 dr) bs → (∀ b o, s.heap.get? b = some o → h'.get? b = some o) → ∃ x H', Inv X pins σ H' { s with heap := h', toks := tk } ∧ RelV x v ∧ Q x H' := by
    intro its as rv hr i v h' tk bs hv rd hk
    have e := best_at hr hdp hk hv rd
    have hi : i < xs.length := by rw [rv.length]; exact (List.getElem?_eq_some_iff.mp hv).1
    have hx := List.getElem?_eq_getElem hi
    obtain ⟨u, hu2, ru⟩ := rv.get hx
    rw [hv] at hu2
    cases hu2
    exact ⟨xs[i], H, I.kept hk, ru, q i _ hx e⟩
  rcases hs with hs | hs
  · obtain ⟨its, rv, hl, _⟩ := I.list hs
    obtain ⟨as, hr⟩ := Dp.readsAll I (d0 :: dr) xs its hd rv
    exact PySem.W.min_list_data (I.ok.hd hc) hl.isList (by simpa using hr) ha (by omega) fun i v h' tk bs hv rd hk => fin its as rv hr i v h' tk bs (by simpa using hv) rd hk
  · obtain ⟨its, rv, hl, _⟩ := I.tuple hs
    obtain ⟨as, hr⟩ := Dp.readsAll I (d0 :: dr) xs its hd rv
    exact PySem.W.min_tuple_data (I.ok.hd hc) hl (by simpa using hr) ha (by omega) fun i v h' tk bs hv rd hk => fin its as rv hr i v h' tk bs (by simpa using hv) rd hk
theorem cr_maxX (hc : X.calm = true) (hu : X.A.units + 64 < cLine) : CallR X (.builtin "max") (rMinX X.K maxDs) := by
  intro pins s σ H vs us Q I r h
  obtain ⟨a, xs, ds, rfl, hs, hd, ⟨ha, hne, hdp⟩, q⟩ := h
  rw [Vals.ref1 r]
  obtain ⟨d0, dr, rfl⟩ : ∃ d0 dr, ds = d0 :: dr := by cases ds with | nil => exact absurd rfl hne | cons x r => exact ⟨x, r, rfl⟩
  have hdep := depth_all (n := 8) fun d hd => (hdp d hd).2
  have fin : ∀ (its : List Value) (as : List Addr), Vals xs its → ReadsAll s.heap its (d0 :: dr) as → ∀ (i : Nat) v h' tk bs, its[i]? = some v → Reads h' v (PySem.W.maxD d0 dr) bs → (∀ b o, s.heap.get? b = some o → h'.get? b = some o) → ∃ x H', Inv X pins σ H' { s with heap := h', toks := tk } ∧ RelV x v ∧ Q x H' := by
    intro its as rv hr i v h' tk bs hv rd hk
    have e := best_at hr hdp hk hv rd
    have hi : i < xs.length := by rw [rv.length]; exact (List.getElem?_eq_some_iff.mp hv).1
    have hx := List.getElem?_eq_getElem hi
    obtain ⟨u, hu2, ru⟩ := rv.get hx
    rw [hv] at hu2
    cases hu2
    exact ⟨xs[i], H, I.kept hk, ru, q i _ hx e⟩
  rcases hs with hs | hs
  · obtain ⟨its, rv, hl, _⟩ := I.list hs
    obtain ⟨as, hr⟩ := Dp.readsAll I (d0 :: dr) xs its hd rv
    exact PySem.W.max_list_data (I.ok.hd hc) hl.isList (by simpa using hr) ha (by omega) fun i v h' tk bs hv rd hk => fin its as rv hr i v h' tk bs (by simpa using hv) rd hk
  · obtain ⟨its, rv, hl, _⟩ := I.tuple hs
    obtain ⟨as, hr⟩ := Dp.readsAll I (d0 :: dr) xs its hd rv
    exact PySem.W.max_tuple_data (I.ok.hd hc) hl (by simpa using hr) ha (by omega) fun i v h' tk bs hv rd hk => fin its as rv hr i v h' tk bs (by simpa using hv) rd hk
def aBestX (best : List PyData → PyData) : Fn1 := fun d m Q => match d with
  | .list ds => MinOk ds ∧ Q (best ds) (elm m (best ds))
  | .tuple ds => MinOk ds ∧ Q (best ds) (elt m (best ds))
  | _ => False
theorem ca_bestX {best : List PyData → PyData} : CallA X (rMinX X.K best) (aBestX best) := by
  intro B Fs Hs F H x d m f Q Q' ex r1 n1 hw k
  unfold aBestX at hw
  split at hw
  · rename_i ds
    obtain ⟨ok, hw⟩ := hw
    obtain ⟨a, vs, e1, h1, nB, q1⟩ := r1.list ex.wf
    refine ⟨a, vs, ds, by rw [e1], .inl (SqL.of h1), RpAll.dp ds _ (rpAll_mono era_sub ds _ q1) (nodAll_of fun d hd => nod_lay d (ok.2.2 d hd).1), ok, fun i v hv hi => ?_⟩
    cases m with
    | b =>
      obtain ⟨v', hv', rp⟩ := rpAll_get q1 hi
      rw [hv] at hv'
      cases hv'
      exact k _ F H _ _ [] ex (TR.scm rp) (fun _ h => by simp at h) hw
    | o m =>
      cases m with
      | zero =>
        obtain ⟨hr, hf⟩ := r1.2.2
        subst e1
        cases hr with
        | lst g1 g2 =>
          have ee := ex.wf.fh _ _ g1
          rw [h1] at ee
          injection ee with ee
          injection ee with ee
          subst ee
          obtain ⟨v', hv', rp⟩ := rpAll_get g2 hi
          rw [hv] at hv'
          cases hv'
          exact k _ F H _ _ [] ex (.of rp) (fun _ h => by simp at h) hw
      | succ m =>
        obtain ⟨b, xs, fs, g1, g2, g3, g4, g5⟩ := r1.2.2
        subst e1
        injection g1 with g1
        subst g1
        rw [h1] at g2
        injection g2 with g2
        injection g2 with g2
        subst g2
        obtain ⟨v', f', hv', rw', sb⟩ := fp3_get g4 hi
        rw [hv] at hv'
        cases hv'
        have sub : ∀ a ∈ f', a ∈ f := fun a ha => by rw [g5]; exact List.mem_cons_of_mem _ (sb.subset ha)
        refine k _ F H _ _ f' ex ⟨?_, fun a ha => r1.2.1 a (sub a ha), rw'⟩ (fun a ha => n1 a (sub a ha)) hw
        have nd := r1.1
        rw [g5] at nd
        exact (List.nodup_cons.mp nd).2.sublist sb
  · rename_i ds
    obtain ⟨ok, hw⟩ := hw
    cases m with
    | b =>
      obtain ⟨a, vs, e1, h1, q1⟩ := r1.tuple ex.wf
      refine ⟨a, vs, ds, by rw [e1], .inr h1, RpAll.dp ds _ (rpAll_mono era_sub ds _ q1) (nodAll_of fun d hd => nod_lay d (ok.2.2 d hd).1), ok, fun i v hv hi => ?_⟩
      obtain ⟨v', hv', rp⟩ := rpAll_get q1 hi
      rw [hv] at hv'
      cases hv'
      exact k _ F H _ _ [] ex (TR.scm rp) (fun _ h => by simp at h) hw
    | o m =>
      obtain ⟨a, vs, e1, h1, q1, hf⟩ := r1.tuple0
      refine ⟨a, vs, ds, by rw [e1], .inr (rp_mono.seqT ex.wf.fh h1), RpAll.dp ds _ (rpAll_mono ex.wf.fh ds _ q1) (nodAll_of fun d hd => nod_lay d (ok.2.2 d hd).1), ok, fun i v hv hi => ?_⟩
      obtain ⟨v', hv', rp⟩ := rpAll_get q1 hi
      rw [hv] at hv'
      cases hv'
      exact k _ F H _ _ [] ex (.of rp) (fun _ h => by simp at h) hw
  · exact hw.elim
theorem te_minX {e : Expr} {u : WE} {p pos : Pos} (hc : X.calm = true) (hu : X.A.units + 65 < cLine) (h : TrE X e u) (hg : Gl X "min") (hm : X.mg "min" = none) (hst : starEach [e] X.env = (false, eval e X.env) :: starEach [] X.env := by rfl) : TrE X (.Call (.Name "min" p) [e] [] pos) (w1 (aBestX minDs) u) :=
  te_c1 (fun q => pe_callB (cr_minX hc (by omega)) hg hm (by decide +kernel) q (by decide) (by decide) hst rfl) ca_bestX h hst
theorem te_maxX {e : Expr} {u : WE} {p pos : Pos} (hc : X.calm = true) (hu : X.A.units + 65 < cLine) (h : TrE X e u) (hg : Gl X "max") (hm : X.mg "max" = none) (hst : starEach [e] X.env = (false, eval e X.env) :: starEach [] X.env := by rfl) : TrE X (.Call (.Name "max" p) [e] [] pos) (w1 (aBestX maxDs) u) :=
  te_c1 (fun q => pe_callB (cr_maxX hc (by omega)) hg hm (by decide +kernel) q (by decide) (by decide) hst rfl) ca_bestX h hst
theorem r_sumAL {ds : List PyData} {md : Md} {Q : QE} : aSumA (.list ds) md Q = ∃ ns : List Int, ds = ns.map .int ∧ Q (.int ns.sum) (.o 0) := rfl
theorem r_sumAT {ds : List PyData} {md : Md} {Q : QE} : aSumA (.tuple ds) md Q = ∃ ns : List Int, ds = ns.map .int ∧ Q (.int ns.sum) (.o 0) := rfl
def BestK (best : List PyData → PyData) (ds : List PyData) (Q : QE) (m : Md) (_ : Tg Q) : Prop := MinOk ds ∧ Q (best ds) (elm m (best ds))
def BestT (best : List PyData → PyData) (ds : List PyData) (Q : QE) (m : Md) (_ : Tg Q) : Prop := MinOk ds ∧ Q (best ds) (elt m (best ds))
theorem r_bestL {best : List PyData → PyData} {ds : List PyData} {md : Md} {Q : QE} : aBestX best (.list ds) md Q = BestK best ds Q md (tg Q) := rfl
theorem r_bestT {best : List PyData → PyData} {ds : List PyData} {md : Md} {Q : QE} : aBestX best (.tuple ds) md Q = BestT best ds Q md (tg Q) := rfl
theorem best_S {best : List PyData → PyData} {ds : List PyData} {d : PyData} {m : Nat} {Q : QE} {t : Tg Q} (h : MinOk ds) (e : best ds = d) (k : Q d (.o m)) : BestK best ds Q (.o (m + 1)) t := by subst e; exact ⟨h, k⟩
theorem best_0 {best : List PyData → PyData} {ds : List PyData} {d : PyData} {Q : QE} {t : Tg Q} (h : MinOk ds) (e : best ds = d) (k : Q d (.o 0)) : BestK best ds Q (.o 0) t := by subst e; exact ⟨h, k⟩
theorem best_b {best : List PyData → PyData} {ds : List PyData} {d : PyData} {Q : QE} {t : Tg Q} (h : MinOk ds) (e : best ds = d) (k : scK Q d) : BestK best ds Q .b t := by subst e; exact ⟨h, k⟩
theorem bestT_0 {best : List PyData → PyData} {ds : List PyData} {d : PyData} {m : Nat} {Q : QE} {t : Tg Q} (h : MinOk ds) (e : best ds = d) (k : Q d (.o 0)) : BestT best ds Q (.o m) t := by subst e; exact ⟨h, k⟩
theorem bestT_b {best : List PyData → PyData} {ds : List PyData} {d : PyData} {Q : QE} {t : Tg Q} (h : MinOk ds) (e : best ds = d) (k : scK Q d) : BestT best ds Q .b t := by subst e; exact ⟨h, k⟩
end
end AL

namespace AL
open PySem PySem.Spec PyProof.Rows L2
theorem tuple_mul1 (l : Addr) (items : Array Value) (n : Nat) (dd : Option Addr) (sl : Array (Option Value)) (u : Tok) :
    Meets (Builtin.«tuple.__mul__» ⟨[.ref l, .int 1 u], []⟩) (fun _ R s => s.heap.get? l = some { cls := .type "tuple", dict := dd, data := .seq items n, slots := sl } ∧ R (.ok (.ret (Value.ref l))) s) :=
  .of_wp fun prog w A R s h => by
    obtain ⟨hp, g, d, tk, os⟩ := s
    obtain ⟨hl, h⟩ := h
    have f1 := AutoSeq1.idx_int
    wp_walk using wpAny_loadPart' hl
    repeat (first
      | (refine wpAny_ite_false (decide_eq_false (by decide)) ?_; wp_walk using wpAny_loadPart' hl)
      | (refine wpAny_ite_true (decide_eq_true (by simp)) ?_; wp_walk using wpAny_loadPart' hl))
    exact ⟨_, rfl, h⟩
def rRepT1 (K : PySem.W.Frag) : R2 := fun x y H Q => ∃ l xs, x = .ref l ∧ y = .int 1 ∧ SqT K H l xs ∧ Q (.ref l) H
section
variable {X : Cx}
theorem op_repT1 : OpR X (binaryOp .Mult) (rRepT1 X.K) := by
  intro pins s σ H x y v u Q I rx ry h
  obtain ⟨l, xs, rfl, rfl, hT, q⟩ := h
  cases rx
  obtain ⟨t, rfl⟩ := ry
  obtain ⟨its, r, ⟨⟨cls, dd, data, sl⟩, ho, hc, n, hd⟩, hs⟩ := I.tuple hT
  simp only at hc hd
  subst hc hd
  refine wpAny_binaryOp_repeat_ref (T := "tuple") (U := "int") (by decide) ⟨_, ho, rfl⟩ (fun s' => typeIs_int s' 1 t) noFill_tuple_mul F.fills_int_mul F.slot_int_rmul repeat_tuple F.slot_int_index.lookup
    (call_meets F.slot_int_rmul (typeIs_int s 1 t) F.entry_int_rmul (F.args_int_rmul_2 _ _) (int_rmul_tuple 1 t l its.toArray n dd sl)
      ⟨ho, rfl, ⟨_, ho, rfl⟩, call_meets F.slot_tuple_mul ⟨_, ho, rfl⟩ F.entry_tuple_mul (F.args_tuple_mul_2 _ _) (tuple_mul1 l its.toArray n dd sl t) ⟨ho, ?_⟩⟩)
  exact ⟨.ref l, H, I, rfl, q⟩
def aRepT : Op2 := fun d1 m1 d2 _ Q => match d1, d2 with
  | .tuple xs, .int k => isO m1 = true ∧ xs ≠ [] ∧ 1 ≤ k ∧ k ≤ 1000 ∧ xs.length ≤ 1000 ∧ Q (.tuple (List.replicate k.toNat xs).flatten) (.o 0)
  | _, _ => False
theorem opa_repT : OpA X (fun x y H Q => rRepT X.K x y H Q ∨ rRepT1 X.K x y H Q) aRepT := by
  intro B Fs Hs F H x y d1 d2 m1 m2 f1 f2 Q Q' ex r1 r2 n1 n2 dj hw k
  unfold aRepT at hw
  split at hw
  · rename_i xs n
    obtain ⟨g0, g1, g2, g3, g4, hq⟩ := hw
    have h2 := r2.read ex.wf
    cases h2
    cases m1 with
    | b => simp [isO] at g0
    | o m =>
      obtain ⟨a, vs, e1, h1, q1, hf⟩ := r1.tuple0
      have hl := rpAll_len q1
      by_cases c : n = 1
      · subst c
        refine .inr ⟨a, vs, e1, rfl, rp_mono.seqT ex.wf.fh h1, ?_⟩
        refine k _ F H _ _ [] ex (.of (.tup h1 q1)) (fun _ h => by simp at h) ?_
        simpa using hq
      · refine .inl ⟨a, n, vs, e1, rfl, rp_mono.seqT ex.wf.fh h1, fun e => g1 (rpAll_nil q1 e), by omega, g3, by omega, fun p np => ?_⟩
        obtain ⟨x1, x2⟩ := newT ex np (rpAll_rep q1 n.toNat)
        exact k _ _ _ _ _ _ x1 x2 (fun _ h => by simp at h) hq
  · exact hw.elim
theorem te_repT {e1 e2 : Expr} {u v : WE} {pos : Pos} (h1 : TrE X e1 u) (h2 : TrE X e2 v) : TrE X (.BinOp e1 .Mult e2 pos) (w2 aRepT u v) := te_op (op_repT.or op_repT1) opa_repT h1 h2
theorem r_repT {xs : List PyData} {n : Nat} {k : Int} {md : Md} {Q : QE} : aRepT (.tuple xs) (.o n) (.int k) md Q = (xs ≠ [] ∧ 1 ≤ k ∧ k ≤ 1000 ∧ xs.length ≤ 1000 ∧ Q (.tuple (List.replicate k.toNat xs).flatten) (.o 0)) := by simp [aRepT, isO]
end
end AL

namespace AL
open PySem PySem.Spec PyProof.Rows L2
theorem enumD_map {α : Type} {f : α → PyData} : ∀ {xs : List α} {k : Nat}, enumD k (xs.map f) = (xs.zipIdx k).map fun p => .tuple [.int (p.2 : Nat), f p.1]
  | [], k => rfl
  | x :: xs, k => by
    rw [List.map_cons, List.zipIdx_cons, List.map_cons, ← enumD_map]
    rfl
theorem for_enum {α : Type} {f : α → PyData} {xs : List α} {g : WG} {b : WS} {D : AEnds} {st : AS} {t : Tg D} (I : Nat → AS → Prop) (h0 : I 0 st) (hs : ∀ i x st', xs[i]? = some x → I i st' → g (.tuple [.int (i : Nat), f x]) (.o 0) st' (b { D with nx := I (i + 1), ct := I (i + 1), bk := D.nx })) (he : ∀ st', I xs.length st' → D.nx st') : ForP g b D (enumD 0 (xs.map f)) st t := by
  rw [enumD_map]
  refine for_map I h0 (fun i x st' hx hI => ?_) (by rwa [List.length_zipIdx])
  rw [List.getElem?_zipIdx] at hx
  cases e : xs[i]? with
  | none => rw [e] at hx; cases hx
  | some y =>
    rw [e] at hx
    cases hx
    simp only [Nat.zero_add]
    exact hs i y st' e hI
theorem cmp_enum {α : Type} {f0 : α → PyData} {xs : List α} {vs : List Nat} {kd : Option Nat} {g : WG} {c : WT} {u : WE} {st : AS} {md : Md} {P : List PyData → Prop} {t : Tg P} (p : Nat × α → Bool) (f : Nat × α → PyData) (hl : xs.length ≤ sizeLine)
    (hs : ∀ i x, xs[i]? = some x → wipK vs st fun s => g (.tuple [.int (i : Nat), f0 x]) (itm md) s fun st2 => c st2 fun k => br k (u st2 fun r mr => eAcc kd r mr = true ∧ p (i, x) = true ∧ r = f (i, x)) (p (i, x) = false)) (hq : P (((xs.zipIdx.map fun q => (q.2, q.1)).filter p).map f)) : CmpP kd vs g c u st P (enumD 0 (xs.map f0)) md t := by
  rw [enumD_map, show (fun p : α × Nat => PyData.tuple [.int (p.2 : Nat), f0 p.1]) = (fun q : Nat × α => PyData.tuple [.int (q.1 : Nat), f0 q.2]) ∘ (fun q : α × Nat => (q.2, q.1)) from rfl, ← List.map_map]
  refine cmp_flt p f (by rw [List.length_map, List.length_zipIdx]; exact hl) (fun x hx => ?_) hq
  obtain ⟨q, hq2, rfl⟩ := List.mem_map.mp hx
  have := List.mem_zipIdx hq2
  refine hs q.2 q.1 ?_
  obtain ⟨h1, h2, h3⟩ := this
  rw [List.getElem?_eq_getElem (by omega), h3]
  simp
theorem cmp_draws {c : WT} {u : WE} {st : AS} {ds : List PyData} {md : Md} {vs : List Nat} {kd : Option Nat} {g : WG} {P : List PyData → Prop} {t : Tg P} (R : Int → Prop) (hl : ds.length ≤ sizeLine)
    (hs : ∀ d ∈ ds, ∀ (K : PyData → Prop) (N : Prop), (∀ r, R r → K (.int r)) → wipK vs st fun s => g d (itm md) s fun st2 => c st2 fun k => br k (u st2 fun r mr => eAcc kd r mr = true ∧ K r) N) (hq : ∀ xs : List Int, xs.length = ds.length → (∀ r ∈ xs, R r) → P (xs.map .int)) : CmpP kd vs g c u st P ds md t :=
  cmp_each (fun d => ∃ r, R r ∧ d = .int r) hl (fun d hd K N hK => hs d hd K N fun r hr => hK _ ⟨r, hr, rfl⟩) fun acc hl hacc => by
    obtain ⟨xs, rfl, h1, h2⟩ := acc_of hacc
    exact hq xs (by rw [h1, hl]) h2
theorem erase_map {α β : Type} (f : α → β) (xs : List α) (k : Nat) : (xs.map f).eraseIdx k = (xs.eraseIdx k).map f := by simp [List.eraseIdx_eq_take_drop_succ]
theorem dEq_nilI (xs : List Int) : dEq (.list (xs.map .int)) (.list []) = xs.isEmpty := by
  have h := dEq_nbd (nbd_ints xs) (nbd_ints [])
  cases xs with
  | nil => exact h.mpr rfl
  | cons x r =>
    rw [Bool.eq_iff_iff, show (PyData.list []) = .list (([] : List Int).map .int) from rfl, h]
    simp
theorem ok_nilI (xs : List Int) : dEqOk (.list (xs.map .int)) (.list []) = true := dEqOk_of ((shp_ints xs).mono (by decide)) ((shp_ints []).mono (by decide))
theorem ok_is (xs : List Int) : dEqOk (.list (xs.map .int)) (.list (xs.map .int)) = true ∧ dEq (.list (xs.map .int)) (.list (xs.map .int)) = true := ⟨dEqOk_of ((shp_ints xs).mono (by decide)) ((shp_ints xs).mono (by decide)), dEq_self (nbd_ints xs)⟩
theorem rng_getDg {α : Type} (l : List α) (d : α) (g : α → PyData) : (List.range l.length).map (fun k => g (l.getD k d)) = l.map g := by
  apply List.ext_getElem
  · simp
  · intro i h1 h2
    simp at h1 h2
    simp [List.getD_eq_getElem?_getD, h1]
end AL

namespace AL
open PySem PySem.Spec PyProof.Rows L2
theorem dlt_asym {a b : PyData} (h : PySem.W.dataLt a b = true) : PySem.W.dataLt b a = false := by
  cases e : PySem.W.dataLt b a with
  | false => rfl
  | true =>
    have := PyProof.Rows.lex_trans _ _ _ h e
    rw [PyProof.Rows.lex_irrefl] at this
    exact absurd this (by decide)
theorem dlt_irr (a : PyData) : PySem.W.dataLt a a = false := PyProof.Rows.lex_irrefl _
theorem minD_keep {d : PyData} : ∀ xs : List PyData, (∀ e ∈ xs, e = d ∨ PySem.W.dataLt d e = true) → PySem.W.minD d xs = d
  | [], _ => rfl
  | x :: xs, h => by
    show PySem.W.minD (if PySem.W.dataLt x d = true then x else d) xs = d
    rw [if_neg]
    · exact minD_keep xs fun e he => h e (List.mem_cons_of_mem _ he)
    · rcases h x (List.mem_cons_self ..) with rfl | h
      · rw [dlt_irr]; decide
      · rw [dlt_asym h]; decide
theorem minD_at {d : PyData} : ∀ (xs : List PyData) (x : PyData), (x = d ∨ PySem.W.dataLt d x = true) → d ∈ x :: xs → (∀ e ∈ xs, e = d ∨ PySem.W.dataLt d e = true) → PySem.W.minD x xs = d
  | xs, x, .inl h, _, h3 => by subst h; exact minD_keep xs h3
  | [], x, .inr h, h2, _ => by
    rw [List.mem_singleton] at h2
    subst h2
    rfl
  | y :: ys, x, .inr h, h2, h3 => by
    show PySem.W.minD (if PySem.W.dataLt y x = true then y else x) ys = d
    have hx : x ≠ d := fun e => by rw [e, dlt_irr] at h; cases h
    by_cases c : PySem.W.dataLt y x = true
    · rw [if_pos c]
      refine minD_at ys y (h3 y (by simp)) ?_ fun e he => h3 e (by simp [he])
      rcases List.mem_cons.mp h2 with e | e
      · exact absurd e.symm hx
      · exact e
    · rw [if_neg c]
      refine minD_at ys x (.inr h) ?_ fun e he => h3 e (by simp [he])
      rcases List.mem_cons.mp h2 with e | e
      · exact absurd e.symm hx
      · rcases List.mem_cons.mp e with e | e
        · subst e; exact absurd h c
        · exact List.mem_cons_of_mem _ e
theorem minDs_eq {d : PyData} {ds : List PyData} (hd : d ∈ ds) (h : ∀ e ∈ ds, e = d ∨ PySem.W.dataLt d e = true) : minDs ds = d := by
  cases ds with
  | nil => simp at hd
  | cons x xs => exact minD_at xs x (h x (by simp)) hd fun e he => h e (by simp [he])
theorem eqv_int {x y : Int} : PyData.eqv (.int x) (.int y) = decide (x = y) := by
  rw [Bool.eq_iff_iff, decide_eq_true_eq]
  simp [PyData.eqv]
theorem alike_int {x y : Int} : PySem.W.alike (.int x) (.int y) = true := by simp [PySem.W.alike]
theorem alike_ints : ∀ xs ys : List Int, PySem.W.alikeAll (xs.map .int) (ys.map .int) = true
  | [], _ => by simp [PySem.W.alikeAll]
  | _ :: _, [] => by simp [PySem.W.alikeAll]
  | x :: xs, y :: ys => by
    rw [List.map_cons, List.map_cons, PySem.W.alikeAll, alike_int, alike_ints xs ys]; rfl
theorem dlt_itx {p q : Int} {xs ys : List Int} {a b : PyData} (h : p < q ∨ (p = q ∧ xs < ys)) : PySem.W.dataLt (.tuple [.int p, .tuple (xs.map .int), a]) (.tuple [.int q, .tuple (ys.map .int), b]) = true := by
  rw [PySem.W.dataLt_tuple, PySem.W.dataLt_cons alike_int, eqv_int]
  rcases h with h | ⟨rfl, h⟩
  · rw [decide_eq_false (by omega), if_neg (by decide), PySem.W.dataLt_int]
    exact decide_eq_true h
  · rw [decide_eq_true rfl, if_pos rfl, PySem.W.dataLt_cons (by rw [PySem.W.alike]; exact alike_ints xs ys)]
    have hne : ¬ PyData.eqv (.tuple (xs.map .int)) (.tuple (ys.map .int)) = true := by
      have nb : ∀ zs : List Int, nbd (.tuple (zs.map .int)) = true := fun zs => by
        have := nbd_ints zs
        simp only [nbd] at this ⊢
        exact this
      rw [eqv_nbd _ _ (nb xs) (nb ys)]
      intro e
      injection e with e
      have := ints_inj e
      subst this
      exact absurd h (List.lt_irrefl _)
    rw [if_neg hne, PySem.W.dataLt_tuple]
    have := PySem.W.dataLt_ints xs ys
    unfold PySem.W.rowLt at this
    rw [this]
    exact decide_eq_true h
theorem dlt_pr {p q : Int × Int} : PySem.W.dataLt (pr p) (pr q) = decide (p.1 < q.1 ∨ (p.1 = q.1 ∧ p.2 < q.2)) := PySem.W.dataLt_ii _ _ _ _
theorem min_pr {l : List (Int × Int)} {m : Int × Int} (h : m ∈ l) (h2 : ∀ x ∈ l, m.1 < x.1 ∨ (m.1 = x.1 ∧ m.2 ≤ x.2)) : minDs (l.map pr) = pr m := by
  refine minDs_eq (List.mem_map.mpr ⟨m, h, rfl⟩) fun e he => ?_
  obtain ⟨x, hx, rfl⟩ := List.mem_map.mp he
  rw [dlt_pr, decide_eq_true_eq]
  rcases h2 x hx with h3 | ⟨h3, h4⟩
  · exact .inr (.inl h3)
  · rcases Int.lt_or_le m.2 x.2 with c | c
    · exact .inr (.inr ⟨h3, c⟩)
    · left
      congr 1
      exact Prod.ext h3.symm (by omega)
theorem minOk_pr {l : List (Int × Int)} (h : l ≠ []) : MinOk (l.map pr) := by
  refine ⟨⟨fun x hx y hy => ?_, fun x hx => ?_⟩, by simpa using h, fun d hd => ?_⟩
  · obtain ⟨a, _, rfl⟩ := List.mem_map.mp hx
    obtain ⟨b, _, rfl⟩ := List.mem_map.mp hy
    exact pr_alike a b
  · obtain ⟨a, _, rfl⟩ := List.mem_map.mp hx
    intro e
    cases e
  · obtain ⟨a, _, rfl⟩ := List.mem_map.mp hd
    exact (shp_pr a).mono (by decide)
end AL

namespace AL
open PySem PySem.Spec PyProof.Rows L2
mutual
def chkV (K : PySem.W.Frag) : Nat → Value → PyData → Bool
  | _, .none, .none => true
  | _, .bool b, .bool c => b == c
  | _, .int i _, .int j => i == j
  | _, .str s _, .str t => s == t
  | n + 1, .ref a, .tuple ds => (match K.lookup a with
    | some ⟨.type c, _, .seq its _, _⟩ => c == "tuple" && decide (its.size ≤ sizeLine) && chkAll K n its.toList ds
    | _ => false)
  | _, _, _ => false
def chkAll (K : PySem.W.Frag) : Nat → List Value → List PyData → Bool
  | _, [], [] => true
  | n, u :: us, d :: ds => chkV K n u d && chkAll K n us ds
  | _, _, _ => false
end
mutual
theorem chkV_rp {K : PySem.W.Frag} : ∀ (n : Nat) (u : Value) (d : PyData), chkV K n u d = true → ∃ v, RelV v u ∧ ∀ F, Rp K F v d := by
  intro n u d h
  unfold chkV at h
  split at h
  · exact ⟨.non, rfl, fun _ => .non⟩
  · rename_i b c
    have e : b = c := by simpa using h
    subst e
    exact ⟨.bl b, rfl, fun _ => .bl _⟩
  · rename_i i t j
    have e : i = j := by simpa using h
    subst e
    exact ⟨.int i, ⟨t, rfl⟩, fun _ => .int _⟩
  · rename_i s t r
    have e : s = r := by simpa using h
    subst e
    exact ⟨.str s, ⟨t, rfl⟩, fun _ => .str _⟩
  · rename_i n a ds
    split at h
    · rename_i c dd its m sl e
      rw [Bool.and_eq_true, Bool.and_eq_true] at h
      obtain ⟨⟨h1, h2⟩, h3⟩ := h
      have h1 : c = "tuple" := by simpa using h1
      subst h1
      obtain ⟨vs, hv, hr⟩ := chkAll_rp n its.toList ds h3
      exact ⟨.ref a, rfl, fun F => .tup (.inr ⟨_, its, m, e, rfl, rfl, of_decide_eq_true h2, hv⟩) (hr F)⟩
    · cases h
  · cases h
theorem chkAll_rp {K : PySem.W.Frag} : ∀ (n : Nat) (us : List Value) (ds : List PyData), chkAll K n us ds = true → ∃ vs, Vals vs us ∧ ∀ F, RpAll K F vs ds := by
  intro n us ds h
  unfold chkAll at h
  split at h
  · exact ⟨[], .nil, fun _ => .nil⟩
  · rename_i u us d ds
    rw [Bool.and_eq_true] at h
    obtain ⟨v, r, p⟩ := chkV_rp n u d h.1
    obtain ⟨vs, rs, ps⟩ := chkAll_rp n us ds h.2
    exact ⟨v :: vs, .cons r rs, fun F => .cons (p F) (ps F)⟩
  · cases h
end
def ndV (K : PySem.W.Frag) (u : Value) : Bool := match u with
  | .ref a => match K.lookup a with
    | some o => o.dict.isNone
    | none => true
  | _ => true
def conIn (K : PySem.W.Frag) (x : Str) (d : PyData) : Bool := match PySem.W.nsIn K mainGlobals x with
  | some (some u) => chkV K 8 u d && ndV K u
  | _ => false
theorem gl_of {K : PySem.W.Frag} {h : Heap} {mg : Str → Option Value} {x : Str} {d : PyData} (X : K.In h) (G : h.Ns mainGlobals mg) (e : conIn K x d = true) : GlD K mg x d := by
  unfold conIn at e
  split at e
  · rename_i u hu
    rw [Bool.and_eq_true] at e
    obtain ⟨v, r, p⟩ := chkV_rp 8 u d e.1
    refine ⟨v, u, PySem.W.mg_of X G hu, r, p, fun a o h1 h2 => ?_⟩
    have e2 := e.2
    subst h1
    obtain rfl : u = Value.ref a := r
    unfold ndV at e2
    simp only [h2] at e2
    exact Option.isNone_iff_eq_none.mp e2
  · cases e
section
variable {X : Cx}
def aIntS : Fn1 := fun d _ Q => match d with
  | .str z => ∃ n, PySem.intText? z = some n ∧ z.length ≤ 640 ∧ Q (.int n) (.o 0)
  | _ => False
theorem ca_intS : CallA X (fun xs H Q => ∃ a n, xs = [.str a] ∧ PySem.intText? a = some n ∧ a.length ≤ 640 ∧ Q (.int n) H) aIntS := by
  refine ca_read fun B F H x d m Q Q' w h hw k => ?_
  unfold aIntS at hw
  split at hw
  · obtain ⟨n, h1, h2, hq⟩ := hw
    cases h
    exact ⟨_, n, rfl, h1, h2, k _ _ (fun _ => .int _) hq⟩
  · exact hw.elim
theorem te_intS {e : Expr} {u : WE} {p pos : Pos} (h : TrE X e u) (hg : Gl X "int") (hm : X.mg "int" = none) (hst : starEach [e] X.env = (false, eval e X.env) :: starEach [] X.env := by rfl) : TrE X (.Call (.Name "int" p) [e] [] pos) (w1 aIntS u) :=
  te_c1 (fun q => pe_callTy call_int_str hg hm (by decide +kernel) q (by decide) (by decide) hst rfl) ca_intS h hst
def IntK (z : Str) (Q : QE) (_ : Tg Q) : Prop := ∃ n, PySem.intText? z = some n ∧ z.length ≤ 640 ∧ Q (.int n) (.o 0)
theorem r_intS {z : Str} {md : Md} {Q : QE} : aIntS (.str z) md Q = IntK z Q (tg Q) := rfl
theorem int_ {z : Str} {Q : QE} {t : Tg Q} (n : Int) (h : PySem.intText? z = some n) (h2 : z.length ≤ 640) (hq : Q (.int n) (.o 0)) : IntK z Q t := ⟨n, h, h2, hq⟩
end
end AL

namespace AL
open PySem PySem.Spec PyProof.Rows L2
section
variable {X : Cx} {v u : WE} {ej e : Expr} {p1 p2 p4 p5 p6 pos pos2 : Pos}
def wAli (i c : Nat) (j k u : WE) (b : WS) : WS := fun D st => match slot st i with
  | .val (.list ds) (.o (m + 2)) => j st fun dj _ => match dj with
    | .int z => match ixN ds.length z with
      | some p => match ds[p]? with
        | some (.list es) => c < st.length ∧ u (put st c .dead) fun d md => k (put st c .dead) fun dk _ => match dk with
          | .int z2 => eOk m d md = true ∧ match ixN es.length z2 with
            | some q => b D (put (put st c .dead) i (.val (.list (ds.set p (.list (es.set q d)))) (.o (m + 2))))
            | none => False
          | _ => False
        | _ => False
      | none => False
    | _ => False
  | _ => False
theorem tb_ali {ek : Expr} {w : WE} {b : WS} {ss : List Stmt} (i c : Nat) {x y : Str} (hj : TrE X ej v) (h : TrE X e u) (hk : TrE X ek w) (hb : TrB X ss b) (hNn : X.N.Nodup) (hci : c ≠ i := by decide)
    (hN : X.N[i]? = some x := by rfl) (hv : Vis X.env.scope x := by first | exact Or.inl rfl | exact Or.inr (Or.inl rfl) | exact Or.inr (Or.inr rfl))
    (hd : (x == ("__debug__" : Str)) = false := by decide) (hcd : (x == ("__classdict__" : Str)) = false := by decide) (hix : PlainIx ej := by exact fun _ _ => rfl)
    (hNy : X.N[c]? = some y := by rfl) (hyl : Loc X.env.scope y := by first | exact Or.inl rfl | exact Or.inr rfl)
    (hvy : Vis X.env.scope y := by first | exact Or.inl rfl | exact Or.inr (Or.inl rfl) | exact Or.inr (Or.inr rfl))
    (hdy : (y == ("__debug__" : Str)) = false := by decide) (hcdy : (y == ("__classdict__" : Str)) = false := by decide)
    (hsw : swapsWith (.Subscript (.Name x p1) ej p4) (some (.Name y p5)) pos.line X.env = pure false := by rfl)
    (hf : X.fn y = true ∨ X.env.scope.names.lookup y = some .local := by first | exact .inl rfl | exact .inr rfl | assumption)
    (ha : ∀ v, assign (.Subscript (.Name y p6) ek p2) X.env v = (do
      let ov ← holding [v] (eval (.Name y p6) X.env)
      let iv ← holding [v, ov] (eval ek X.env)
      standAt p2
      holding [v, ov, iv] (setItem ov iv v)
      release [v, ov, iv] []) := by intro _; rfl)
    (hs : swapsWithSole [.Subscript (.Name y p6) ek p2] e pos2.line X.env = pure false := by rfl) (hw : swappedStores [.Subscript (.Name y p6) ek p2] e X.env = pure none := by rfl)
    (h1 : (assignEach [.Subscript (.Name y p6) ek p2] X.env).map (·.2) = [assign (.Subscript (.Name y p6) ek p2) X.env] := by rfl) :
    TrB X (.Assign [.Name y p5] (.Subscript (.Name x p1) ej p4) pos :: .Assign [.Subscript (.Name y p6) ek p2] e pos2 :: ss) (wAli i c v w u b) := by
  obtain ⟨t, p, sd⟩ := h.run
  obtain ⟨tj, pj, sj⟩ := hj.run
  obtain ⟨tk, pk, sk⟩ := hk.run
  obtain ⟨tb, pb, sb⟩ := hb.run
  refine ⟨_, pss_cons (ps_set hNn hNy hyl (pe_ix ix_list (pe_var hN hv hd hcd) pj hix) hsw hf) (pss_cons (ps_asg p (pg_sub (pe_var hNy hvy hdy hcdy) pk set_list ha) hs hw h1) pb), fun B F0 H0 F H σ st D D' R n hw k => ?_⟩
  unfold wAli at hw
  split at hw
  · rename_i ds m hsl
    obtain ⟨a0, xs0, q1, _, _⟩ := R.recv hsl
    refine ⟨_, q1, sj B F0 H0 F H σ st _ (fun y H2 => rIxL X.K (.ref a0) y H2 _) R hw fun yj F2 H2 dj mj fj x2 r2 n2 hq => ?_⟩
    split at hq
    · rename_i z
      have hz := r2.read x2.wf
      cases hz
      split at hq
      · rename_i p hp
        split at hq
        · rename_i es hes
          obtain ⟨hcl, hq⟩ := hq
          obtain ⟨a, xs, b, ys, fs, w1, w2, w3, w4, w5, w6, w7, w8, w8a, w9, w10, w11, w12, _⟩ := R.deep n x2 hsl hes
          rw [q1] at w1
          obtain rfl : a0 = a := by simpa using w1
          have R2 := (R.go x2).kill (i := c) (some (.ref b))
          have nn := noB_kill (i := c) n
          have hsl2 : slot (put st c .dead) i = .val (.list ds) (.o (m + 2)) := by rw [slot_put_ne _ _ _ _ (Ne.symm hci)]; exact hsl
          have hcs : (σ.set c (some (.ref b)))[c]? = some (some (.ref b)) := by
            rw [List.getElem?_set_self]
            rw [R.len]; exact hcl
          refine ⟨a0, xs, z, .ref b, rfl, rfl, SqL.of w2, ?_, sd B F0 H0 F2 H2 _ _ _ _ R2 hq fun y F3 H3 d md f x1 r1 n1 hq => ⟨_, hcs, sk B F0 H0 F3 H3 _ _ _ (fun y H2 => rSetL (.ref b) y _ H2 _) (R2.go x1) hq fun yk F4 H4 dk mk fk x3 r3 n3 hq => ?_⟩⟩
          · unfold atI
            rw [w10, hp]
            exact w3
          · split at hq
            · rename_i z2
              have hz := r3.read x3.wf
              cases hz
              obtain ⟨hk, hq⟩ := hq
              split at hq
              · rename_i q hqq
                have x13 := x1.trans x3
                obtain ⟨F5, g, x4, _, s3, o3, nd, fr, _, _⟩ := (r1.ext x3).item x13 n1 hk
                obtain ⟨a', xs', b', ys', fs', v1, v2, v3, v4, v5, v6, v7, v8, v8a, v9, v10, v11, v12, v13⟩ := R2.deep nn x4 hsl2 hes
                rw [List.getElem?_set_ne hci, q1] at v1
                obtain rfl : a0 = a' := by simpa using v1
                have ex : xs = xs' := by
                  have := x13.hh a0 _ w11 w2
                  rw [v2] at this
                  injection this with this
                  injection this with this
                  exact this.symm
                subst ex
                rw [w3] at v3
                injection v3 with v3
                injection v3 with v3
                subst v3
                have hbg : b ∉ g := fun hm => by
                  obtain ⟨o, ho⟩ := v8 b (List.mem_cons_self ..)
                  rw [(fr b hm).2] at ho; cases ho
                obtain ⟨fs2, s1, s2, s4⟩ := fp3_set (p := q) v5 o3 (ixN_lt hqq)
                have hb2 : b ∉ fs2 := fun hm => (s2 b hm).elim v6 hbg
                refine ⟨b, ys', z2, q, rfl, rfl, v4, by rw [v5.len]; exact hqq, sb B F0 H0 F5 _ _ _ D D' (v13 _ _ fs2 (fp3_upd s1 hb2) (s4 v7 nd fun c hc hm => ?_) hb2 fun c hc => (s2 c hc).imp id fun q => ⟨(fr c q).2, (fr c q).1⟩) (noB_put nn) hq (k.mono (x2.trans x4).ff)⟩
                obtain ⟨o, ho⟩ := v8 c (List.mem_cons_of_mem _ hm)
                rw [(fr c hc).2] at ho; cases ho
              · exact hq.elim
            · exact hq.elim
        · exact hq.elim
      · exact hq.elim
    · exact hq.elim
  · exact hw.elim
def AliP (own : AS) (i c : Nat) (ds : List PyData) (m : Nat) (z : Int) (w u : WE) (k : AS → Prop) (_ : Tg k) : Prop := match ixN ds.length z with
  | some p => match ds[p]? with
    | some (.list es) => putK own c .dead fun s => u s fun d md => w s (s2J2 s i ds m p es d md k)
    | _ => False
  | none => False
def aliJ (own : AS) (i c : Nat) (ds : List PyData) (m : Nat) (w u : WE) (k : AS → Prop) (dj : PyData) (_ : Md) : Prop := match dj with
  | .int z => AliP own i c ds m z w u k (tg k)
  | _ => False
def aliK (own : AS) (i c : Nat) (v w u : WE) (k : AS → Prop) : AS → Nat → Prop := fun st j => match slot st j with
  | .val (.list ds) (.o (m + 2)) => v own (aliJ own i c ds m w u k)
  | _ => False
theorem r_ali {w : WE} {b : WS} {D : AEnds} {st : AS} {i c : Nat} : wAli i c v w u b D st = aliK st i c v w u (b D) st i := by
  unfold wAli aliK
  split
  · rename_i ds m h
    have hl : i < st.length := slot_lt h
    have hl2 : i < (put st c .dead).length := by rw [put_len]; exact hl
    try simp only [h]
    refine congrArg _ (funext fun dj => funext fun m3 => ?_)
    unfold aliJ AliP s2J2 S2Q
    simp only [putK_eq, eq_true hl2, true_and] <;> rfl
  · rename_i h
    first
      | rfl
      | (split
         · rename_i ds m h2; exact absurd h2 (h ds m)
         · rfl)
theorem r_ali0 {own r : AS} {i c m : Nat} {w : WE} {k : AS → Prop} {ds : List PyData} : aliK own i c v w u k (.val (.list ds) (.o (m + 2)) :: r) 0 = v own (aliJ own i c ds m w u k) := rfl
theorem r_aliS {own r : AS} {i c j : Nat} {w : WE} {k : AS → Prop} {x : SV} : aliK own i c v w u k (x :: r) (j + 1) = aliK own i c v w u k r j := rfl
theorem r_aliJ {own : AS} {i c m : Nat} {w : WE} {k : AS → Prop} {ds : List PyData} {z : Int} {md : Md} : aliJ own i c ds m w u k (.int z) md = AliP own i c ds m z w u k (tg k) := rfl
theorem ali_ {own : AS} {i c m : Nat} {w : WE} {k : AS → Prop} {ds : List PyData} {z : Int} {t : Tg k} (p : Nat) (es : List PyData) (h : ixN ds.length z = some p) (h2 : ds[p]? = some (.list es)) (hk : putK own c .dead fun s => u s fun d md => w s (s2J2 s i ds m p es d md k)) : AliP own i c ds m z w u k t := by
  unfold AliP
  rw [h]
  simp only [h2]
  exact hk
end
end AL

namespace AL
open PySem PySem.Spec PyProof.Rows L2
section
variable {K : PySem.W.Frag} {B : Option Bx} {F0 H0 F H : Hp} {σ : L2.St} {st : AS} {i c m : Nat} {ds : List PyData} {d : PyData}
theorem SR.move (R : SR K B F0 H0 F H σ st) (n : NoB st) (hs : slot st i = .val (.list ds) (.o (m + 2))) (hc : slot st c = .val d (.o (m + 1))) (hci : c ≠ i) :
    ∃ a xs v, σ[i]? = some (some (.ref a)) ∧ σ[c]? = some (some v) ∧ H a = some (.lst xs) ∧ xs.length = ds.length ∧
      SR K B F0 H0 F (upd H a (.lst (xs ++ [v]))) σ (put (put st c .dead) i (.val (.list (ds ++ [d])) (.o (m + 2)))) := by
  obtain ⟨fpf, h1, h2, h3, h4⟩ := R.own
  have hi := slot_lt hs
  have hcl := slot_lt hc
  obtain ⟨v0, q1, t⟩ := h1 i _ _ hs
  obtain ⟨v, q2, tc⟩ := h1 c _ _ hc
  obtain ⟨nd, nbf, a, xs, fs, e1, e2, e3, e4, e5⟩ := t
  subst e1
  have hai : a ∈ fpf i := by rw [e5]; exact List.mem_cons_self ..
  have hac : a ∉ fpf c := fun hm => hci (h3 c i a hm hai)
  have hsi : ∀ b ∈ fs, b ∈ fpf i := fun b hb => by rw [e5]; exact List.mem_cons_of_mem _ hb
  rw [e5] at nd
  have nda := List.nodup_cons.mp nd
  have e0 := R.ext
  have hk : ∀ b o, b ≠ a → H b = some o → upd H a (.lst (xs ++ [v])) b = some o := fun b o hb q => by rw [upd_ne hb]; exact q
  have nba : nb B a := nbf a hai
  have exN : Ext K B F0 H0 F (upd H a (.lst (xs ++ [v]))) := by
    refine ⟨fun b o nbb hb => hk b o (fun z => ?_) (e0.hh b o nbb hb), e0.ff, e0.nw, ⟨fun b o hb => hk b o (fun z => ?_) (e0.wf.fh _ _ hb), e0.wf.bn, fun y hy => ?_, e0.wf.bd⟩⟩
    · rw [z, h4 i a hai] at hb; cases hb
    · rw [z, e3] at hb; cases hb
    · obtain ⟨k, k0, hk'⟩ := e0.wf.bk y hy
      exact ⟨k, k0, hk _ _ (fun z => nba y hy z) hk'⟩
  have hii : i < (put st c .dead).length := by rw [put_len]; exact hi
  have sl : ∀ j, j ≠ i → j ≠ c → slot (put (put st c .dead) i (.val (.list (ds ++ [d])) (.o (m + 2)))) j = slot st j := fun j z y => by
    rw [slot_put_ne _ _ _ _ z, slot_put_ne _ _ _ _ y]
  have slc : slot (put (put st c .dead) i (.val (.list (ds ++ [d])) (.o (m + 2)))) c = .dead := by
    rw [slot_put_ne _ _ _ _ hci, slot_put_same _ _ _ hcl]
  have mem : ∀ b, b ∈ a :: (fs ++ (fpf c ++ [])) → b ∈ fpf i ∨ b ∈ fpf c := fun b hb => by
    rw [List.append_nil] at hb
    rcases List.mem_cons.mp hb with q | q
    · exact .inl (q ▸ hai)
    · exact (List.mem_append.mp q).imp (hsi b) id
  refine ⟨a, xs, v, q1, q2, e2, e4.len, exN, by rw [put_len, put_len]; exact R.len, ⟨ovr (ovr fpf c []) i (a :: (fs ++ (fpf c ++ []))), fun j d' md' q => ?_, fun j q => ?_, fun j k b hb hb2 => ?_, fun j b hb => ?_⟩, fun j q => ?_, fun j ns q => ?_⟩
  · by_cases z : j = i
    · subst z
      rw [slot_put_same _ _ _ hii] at q
      cases q
      refine ⟨_, q1, ?_⟩
      rw [ovr_eq rfl]
      refine ⟨List.nodup_cons.mpr ⟨fun hm => ?_, ?_⟩, fun b hb => ?_, a, xs ++ [v], fs ++ (fpf c ++ []), rfl, upd_same, e3, (fp3_upd e4 nda.1).app (.cons (own_upd tc.2.2 hac) .nil), rfl⟩
      · rw [List.append_nil] at hm
        exact (List.mem_append.mp hm).elim nda.1 hac
      · rw [List.append_nil]
        exact fp3_nodup_app nda.2 tc.1 fun b hb hb2 => hci (h3 c j b hb2 (hsi b hb))
      · rcases mem b hb with q | q
        · exact nbf b q
        · exact tc.2.1 b q
    · by_cases y : j = c
      · subst y
        rw [slc] at q; cases q
      · rw [sl j z y] at q
        obtain ⟨u, p1, p2⟩ := h1 j d' md' q
        refine ⟨u, p1, ?_⟩
        rw [ovr_ne z, ovr_ne y]
        refine ⟨p2.1, p2.2.1, ?_⟩
        cases md' with
        | b => exact absurd q (n j d')
        | o mm => exact own_mono (Same.refl _) mm _ _ _ p2.2.2 (fun b hb o ho => hk b o (fun e => z (h3 j i b hb (e ▸ hai))) ho) fun _ _ h => h
  · by_cases z : j = i
    · subst z
      rw [slot_put_same _ _ _ hii] at q
      exact absurd rfl (q _ _)
    · rw [ovr_ne z]
      by_cases y : j = c
      · rw [ovr_eq y]
      · rw [ovr_ne y]
        exact h2 j fun d' md' z' => q d' md' (by rw [sl j z y]; exact z')
  · have key : ∀ j k, j = i → k ≠ i → b ∈ ovr (ovr fpf c []) i (a :: (fs ++ (fpf c ++ []))) j → b ∈ ovr (ovr fpf c []) i (a :: (fs ++ (fpf c ++ []))) k → False := fun j k z y hb hb2 => by
      rw [ovr_eq z] at hb
      rw [ovr_ne y] at hb2
      by_cases w : k = c
      · rw [ovr_eq w] at hb2; simp at hb2
      · rw [ovr_ne w] at hb2
        rcases mem b hb with q | q
        · exact y (h3 k i b hb2 q)
        · exact w (h3 k c b hb2 q)
    by_cases z : j = i
    · by_cases y : k = i
      · rw [z, y]
      · exact (key j k z y hb hb2).elim
    · by_cases y : k = i
      · exact (key k j y z hb2 hb).elim
      · rw [ovr_ne z] at hb
        rw [ovr_ne y] at hb2
        by_cases w : j = c
        · rw [ovr_eq w] at hb; simp at hb
        · by_cases w2 : k = c
          · rw [ovr_eq w2] at hb2; simp at hb2
          · rw [ovr_ne w] at hb
            rw [ovr_ne w2] at hb2
            exact h3 j k b hb hb2
  · by_cases z : j = i
    · rw [ovr_eq z] at hb
      rcases mem b hb with q | q
      · exact h4 i b q
      · exact h4 c b q
    · rw [ovr_ne z] at hb
      by_cases y : j = c
      · rw [ovr_eq y] at hb; simp at hb
      · rw [ovr_ne y] at hb
        exact h4 j b hb
  · by_cases z : j = i
    · subst z
      rw [slot_put_same _ _ _ hii] at q; cases q
    · by_cases y : j = c
      · subst y
        rw [slc] at q; cases q
      · rw [sl j z y] at q
        exact R.box j q
  · by_cases z : j = i
    · subst z
      rw [slot_put_same _ _ _ hii] at q; cases q
    · by_cases y : j = c
      · subst y
        rw [slc] at q; cases q
      · rw [sl j z y] at q
        exact R.scr j ns q
end
section
variable {X : Cx} {ej ek : Expr} {v w : WE} {pos p1 p2 p3 p4 : Pos}
def wAppMv (i c : Nat) : WS := fun D st => match slot st i, slot st c with
  | .val (.list ds) (.o (m + 2)), .val d (.o (m' + 1)) => m = m' ∧ ds.length < sizeLine ∧ D.nx (put (put st c .dead) i (.val (.list (ds ++ [d])) (.o (m + 2))))
  | _, _ => False
theorem ts_appMv (i c : Nat) {x y : Str} (hci : c ≠ i := by decide) (hN : X.N[i]? = some x := by rfl) (hv : Vis X.env.scope x := by first | exact Or.inl rfl | exact Or.inr (Or.inl rfl) | exact Or.inr (Or.inr rfl))
    (hd : (x == ("__debug__" : Str)) = false := by decide) (hcd : (x == ("__classdict__" : Str)) = false := by decide)
    (hNy : X.N[c]? = some y := by rfl) (hvy : Vis X.env.scope y := by first | exact Or.inl rfl | exact Or.inr (Or.inl rfl) | exact Or.inr (Or.inr rfl))
    (hdy : (y == ("__debug__" : Str)) = false := by decide) (hcdy : (y == ("__classdict__" : Str)) = false := by decide)
    (hst : starEach [.Name y p4] X.env = (false, eval (.Name y p4) X.env) :: starEach [] X.env := by rfl)
    (hm : ∀ {to : TE} {t : TA}, PE X (.Name x p1) to → PA X [.Name y p4] t → PE X (.Call (.Attribute (.Name x p1) "append" p2) [.Name y p4] [] p3) (tBM X.K "list" rAppend to t))
    (hs : swapsWith (.Call (.Attribute (.Name x p1) "append" p2) [.Name y p4] [] p3) none pos.line X.env = pure false := by rfl) :
    TrS X (.Expr (.Call (.Attribute (.Name x p1) "append" p2) [.Name y p4] [] p3) pos) (wAppMv i c) := by
  refine ⟨_, ps_expr (hm (pe_var hN hv hd hcd) (pa_cons (pe_var hNy hvy hdy hcdy) pa_nil hst)) hs, fun B F0 H0 F H σ st D D' R n hw k => ?_⟩
  unfold wAppMv at hw
  split at hw
  · rename_i ds m d m' hsl hsc
    obtain ⟨e, hz, hq⟩ := hw
    subst e
    obtain ⟨a, xs, u, w1, w2, w3, w4, w5⟩ := R.move n hsl hsc hci
    exact ⟨_, w1, .inl ⟨rfl, _, SqL.of w3⟩, u, w2, a, xs, u, rfl, rfl, w3, by rw [w4]; exact hz, k.nx σ F _ _ (Same.refl _) w5 (noB_put (noB_kill n)) hq⟩
  · exact hw.elim
theorem apMv_ {D : AEnds} {st : AS} {i c m : Nat} {ds : List PyData} {d : PyData} (hs : slot st i = .val (.list ds) (.o (m + 2))) (hc : slot st c = .val d (.o (m + 1))) (hl : ds.length < sizeLine)
    (hk : putK st c .dead fun s => putK s i (.val (.list (ds ++ [d])) (.o (m + 2))) D.nx) : wAppMv i c D st := by
  unfold wAppMv
  rw [hs, hc]
  rw [putK_eq] at hk
  obtain ⟨_, hk⟩ := hk
  rw [putK_eq] at hk
  exact ⟨rfl, hl, hk.2⟩
def wRetAt2 (i : Nat) (j k : WE) : WS := fun D st => match slot st i with
  | .val (.list ds) (.o (m + 2)) => j st fun dj _ => match dj with
    | .int z => match ixN ds.length z with
      | some p => match ds[p]? with
        | some (.list es) => k st fun dk _ => match dk with
          | .int z2 => match ixN es.length z2 with
            | some q => match es[q]? with
              | some d => D.rt d (.o m)
              | none => False
            | none => False
          | _ => False
        | _ => False
      | none => False
    | _ => False
  | _ => False
theorem ts_retAt2 (i : Nat) {x : Str} (hj : TrE X ej v) (hk : TrE X ek w) (hN : X.N[i]? = some x := by rfl) (hv : Vis X.env.scope x := by first | exact Or.inl rfl | exact Or.inr (Or.inl rfl) | exact Or.inr (Or.inr rfl))
    (hd : (x == ("__debug__" : Str)) = false := by decide) (hcd : (x == ("__classdict__" : Str)) = false := by decide) (hix : PlainIx ej := by exact fun _ _ => rfl) (hix2 : PlainIx ek := by exact fun _ _ => rfl) :
    TrS X (.Return (some (.Subscript (.Subscript (.Name x p1) ej p2) ek p3)) pos) (wRetAt2 i v w) := by
  obtain ⟨tj, pj, sj⟩ := hj.run
  obtain ⟨tk, pk, sk⟩ := hk.run
  refine ⟨_, ps_ret (pe_ix ix_list (pe_ix ix_list (pe_var hN hv hd hcd) pj hix) pk hix2), fun B F0 H0 F H σ st D D' R n hw k => ?_⟩
  unfold wRetAt2 at hw
  split at hw
  · rename_i ds m hsl
    obtain ⟨v0, fp, q1, t, fr⟩ := R.get hsl
    have t0 := t
    obtain ⟨_, _, a0, xs0, fs0, rfl, _, _, _, _⟩ := t0
    refine ⟨_, q1, sj B F0 H0 F H σ st _ (fun y H2 => rIxL X.K (.ref a0) y H2 _) R hw fun yj F1 H1 dj mj fj x1 r1 n1 hq => ?_⟩
    split at hq
    · rename_i z
      have hz := r1.read x1.wf
      cases hz
      split at hq
      · rename_i p hp
        split at hq
        · rename_i es hes
          have t1 := t.ext x1
          obtain ⟨_, nb1, a1, xs1, fs1, e1, e2, e3, e4, e5⟩ := t1
          injection e1 with e1
          subst e1
          have hlt : p < ds.length := (List.getElem?_eq_some_iff.mp hes).1
          obtain ⟨u1, d1, f1, g1, g2, g3, g4, g5, _⟩ := fp3_mod p e4 hlt
          rw [hes] at g2
          cases g2
          obtain ⟨b1, ys1, fb1, b2, b3, b4, b5, b6⟩ := g3
          subst b2
          refine ⟨a0, xs1, z, .ref b1, rfl, rfl, SqL.of e2, ?_, sk B F0 H0 F1 H1 σ st _ (fun y H2 => rIxL X.K (.ref b1) y H2 _) (R.go x1) hq fun yk F2 H2 dk mk fk x2 r2 n2 hq => ?_⟩
          · unfold atI
            rw [e4.len, hp]
            exact g1
          · split at hq
            · rename_i z2
              have hz := r2.read x2.wf
              cases hz
              split at hq
              · rename_i q hqq
                split at hq
                · rename_i d hd
                  have hq1 : q < es.length := (List.getElem?_eq_some_iff.mp hd).1
                  obtain ⟨u2, d2, f2, c1, c2, c3, c4, c5, _⟩ := fp3_mod q b5 hq1
                  rw [hd] at c2
                  cases c2
                  have inA : ∀ b ∈ f1, b ∈ fp := fun b hb => by rw [e5]; exact List.mem_cons_of_mem _ (g4 b hb)
                  have inB : ∀ b ∈ f2, b ∈ fp := fun b hb => inA b (by rw [b6]; exact List.mem_cons_of_mem _ (c4 b hb))
                  have ndp : fp.Nodup := t.1
                  rw [e5] at ndp
                  have nd1 := g5 (List.nodup_cons.mp ndp).2
                  rw [b6] at nd1
                  have tr : TR X.K B F1 H1 u2 d (.o m) f2 := ⟨c5 (List.nodup_cons.mp nd1).2, fun b hb => nb1 b (inB b hb), c3⟩
                  have bn : nb B b1 := nb1 b1 (inA b1 (by rw [b6]; exact List.mem_cons_self ..))
                  refine ⟨b1, ys1, z2, u2, rfl, rfl, SqL.of (x2.hh _ _ bn b3), ?_, k.rt u2 F2 H2 d _ f2 (R.ext.trans (x1.trans x2)) (tr.ext x2) (fun b hb => fr b (inB b hb)) hq⟩
                  unfold atI
                  rw [b5.len, hqq]
                  exact c1
                · exact hq.elim
              · exact hq.elim
            · exact hq.elim
        · exact hq.elim
      · exact hq.elim
    · exact hq.elim
  · exact hw.elim
theorem retAt2_ {D : AEnds} {st : AS} {i p q m : Nat} {z z2 : Int} {ds es : List PyData} {d : PyData} (hs : slot st i = .val (.list ds) (.o (m + 2))) (h1 : ixN ds.length z = some p) (h2 : ds[p]? = some (.list es)) (h3 : ixN es.length z2 = some q) (h4 : es[q]? = some d)
    (hq : D.rt d (.o m)) : wRetAt2 i (wC (.int z)) (wC (.int z2)) D st := by
  unfold wRetAt2
  rw [hs]
  simp only [wC, h1, h2, h3, h4]
  exact hq
end
end AL

namespace AL
open PySem PySem.Spec PyProof.Rows L2
theorem put_put : ∀ (st : AS) (i : Nat) (y z : SV), put (put st i y) i z = put st i z
  | [], _, _, _ => rfl
  | _ :: _, 0, _, _ => rfl
  | x :: r, i + 1, y, z => congrArg (x :: ·) (put_put r i y z)
section
variable {X : Cx} {v u : WE} {ej e : Expr} {p1 p2 p3 p4 p5 p6 pos : Pos}
def insS (D : AEnds) (i : Nat) (z : Int) (d : PyData) (st : AS) : Prop := match slot st i with
  | .val (.list ds) (.o 1) => ds.length < sizeLine ∧ D.nx (put st i (.val (.list (ds.take z.toNat ++ [d] ++ ds.drop z.toNat)) (.o 1)))
  | _ => False
def wInsPop (i : Nat) (u v : WE) : WS := fun D st => match slot st i with
  | .val (.list _) (.o 1) => u st fun d0 _ => match d0 with
    | .int z => 0 ≤ z ∧ z < 9223372036854775808 ∧ wPopAt i v (insS D i z) st
    | _ => False
  | _ => False
theorem ts_insPop (i : Nat) {x : Str} (h : TrE X e u) (hj : TrE X ej v)
    (hm : ∀ {to : TE} {t : TA}, PE X (.Name x p1) to → PA X [e, .Call (.Attribute (.Name x p4) "pop" p5) [ej] [] p6] t → PE X (.Call (.Attribute (.Name x p1) "insert" p2) [e, .Call (.Attribute (.Name x p4) "pop" p5) [ej] [] p6] [] p3) (tBM X.K "list" rInsert to t))
    (hm2 : ∀ {to : TE} {t : TA}, PE X (.Name x p4) to → PA X [ej] t → PE X (.Call (.Attribute (.Name x p4) "pop" p5) [ej] [] p6) (tBM X.K "list" rPopAt to t))
    (hN : X.N[i]? = some x := by rfl) (hv : Vis X.env.scope x := by first | exact Or.inl rfl | exact Or.inr (Or.inl rfl) | exact Or.inr (Or.inr rfl))
    (hd : (x == ("__debug__" : Str)) = false := by decide) (hcd : (x == ("__classdict__" : Str)) = false := by decide)
    (hst : starEach [e, .Call (.Attribute (.Name x p4) "pop" p5) [ej] [] p6] X.env = (false, eval e X.env) :: starEach [.Call (.Attribute (.Name x p4) "pop" p5) [ej] [] p6] X.env := by rfl)
    (hst2 : starEach [.Call (.Attribute (.Name x p4) "pop" p5) [ej] [] p6] X.env = (false, eval (.Call (.Attribute (.Name x p4) "pop" p5) [ej] [] p6) X.env) :: starEach [] X.env := by rfl)
    (hst3 : starEach [ej] X.env = (false, eval ej X.env) :: starEach [] X.env := by rfl)
    (hs : swapsWith (.Call (.Attribute (.Name x p1) "insert" p2) [e, .Call (.Attribute (.Name x p4) "pop" p5) [ej] [] p6] [] p3) none pos.line X.env = pure false := by rfl) :
    TrS X (.Expr (.Call (.Attribute (.Name x p1) "insert" p2) [e, .Call (.Attribute (.Name x p4) "pop" p5) [ej] [] p6] [] p3) pos) (wInsPop i u v) := by
  obtain ⟨t, p, sd⟩ := h.run
  obtain ⟨tj, pj, sj⟩ := hj.run
  refine ⟨_, ps_expr (hm (pe_var hN hv hd hcd) (pa_cons p (pa_cons (hm2 (pe_var hN hv hd hcd) (pa_cons pj pa_nil hst3)) pa_nil hst2) hst)) hs, fun B F0 H0 F H σ st D D' R n hw k => ?_⟩
  unfold wInsPop at hw
  split at hw
  · rename_i ds0 hsl
    obtain ⟨a, xs0, q1, q2, _⟩ := R.recv hsl
    refine ⟨_, q1, .inl ⟨rfl, _, SqL.of q2⟩, sd B F0 H0 F H σ st _ _ R hw fun yj F1 H1 dj mj fj x1 r1 n1 hq1 => ?_⟩
    split at hq1
    · rename_i z
      have hz := r1.read x1.wf
      cases hz
      obtain ⟨z0, z1, hq1⟩ := hq1
      refine popS sj (R.go x1) n hq1 fun v d F' H' st' ff R' n' r hq => ?_
      unfold insS at hq
      split at hq
      · rename_i ds hsl'
        obtain ⟨hl, hq⟩ := hq
        obtain ⟨a', xs, fs, w1, w2, w3, w4, w5, w6, w7, w8, w9⟩ := R'.write n' (.refl R'.wf) hsl'
        rw [q1] at w1
        obtain rfl : a = a' := by simpa using w1
        obtain ⟨fs', s1, s3, s4⟩ := fp3_ins (own0 r : Own X.K F' H' 0 v d []) z.toNat w3
        have ha' : a ∉ fs' := fun hm => (s3 a hm).elim w4 (fun h => by simp at h)
        refine ⟨a, xs, z, v, rfl, rfl, w2, by rw [w3.len]; exact hl, z0, by simpa using z1, k.nx σ F' _ _ (x1.ff.trans ff) (w9 _ _ fs' 0 upd_keep ⟨_, upd_same, fp3_upd s1 ha'⟩ (s4 w5 List.nodup_nil fun b hb => by simp at hb) fun b hb => ?_) (noB_put n') hq⟩
        exact (s3 b hb).elim .inl fun h => by simp at h
      · exact hq.elim
    · exact hq1.elim
  · exact hw.elim
theorem insPop_ {D : AEnds} {st : AS} {i p : Nat} {z z2 : Int} {ds : List PyData} {d : PyData} (hs : slot st i = .val (.list ds) (.o 1)) (z0 : 0 ≤ z) (z1 : z < 9223372036854775808) (hj : ∀ Q : QE, Q (.int z2) (.o 0) → v st Q) (hp : ixN ds.length z2 = some p) (hd : ds[p]? = some d) (hl : ds.length < sizeLine)
    (hk : putK st i (.val (.list ((ds.eraseIdx p).take z.toNat ++ [d] ++ (ds.eraseIdx p).drop z.toNat)) (.o 1)) D.nx) : wInsPop i (wC (.int z)) v D st := by
  unfold wInsPop
  rw [hs]
  refine ⟨z0, z1, ?_⟩
  unfold wPopAt
  rw [hs]
  refine hj _ ⟨by omega, ?_⟩
  rw [hp]
  simp only [hd]
  unfold insS
  rw [putK_eq] at hk
  rw [slot_put_same _ _ _ hk.1]
  refine ⟨Nat.lt_of_le_of_lt (by rw [List.length_eraseIdx]; split <;> omega) hl, ?_⟩
  rw [put_put]
  exact hk.2
def appS (D : AEnds) (i : Nat) (d : PyData) (st : AS) : Prop := match slot st i with
  | .val (.list ds) (.o 1) => ds.length < sizeLine ∧ D.nx (put st i (.val (.list (ds ++ [d])) (.o 1)))
  | _ => False
def wAppPop (i iy : Nat) (v : WE) : WS := fun D st => match slot st i with
  | .val (.list _) (.o 1) => wPopAt iy v (appS D i) st
  | _ => False
theorem ts_appPop (i iy : Nat) {x y : Str} (hj : TrE X ej v)
    (hm : ∀ {to : TE} {t : TA}, PE X (.Name x p1) to → PA X [.Call (.Attribute (.Name y p4) "pop" p5) [ej] [] p6] t → PE X (.Call (.Attribute (.Name x p1) "append" p2) [.Call (.Attribute (.Name y p4) "pop" p5) [ej] [] p6] [] p3) (tBM X.K "list" rAppend to t))
    (hm2 : ∀ {to : TE} {t : TA}, PE X (.Name y p4) to → PA X [ej] t → PE X (.Call (.Attribute (.Name y p4) "pop" p5) [ej] [] p6) (tBM X.K "list" rPopAt to t))
    (hN : X.N[i]? = some x := by rfl) (hv : Vis X.env.scope x := by first | exact Or.inl rfl | exact Or.inr (Or.inl rfl) | exact Or.inr (Or.inr rfl))
    (hd : (x == ("__debug__" : Str)) = false := by decide) (hcd : (x == ("__classdict__" : Str)) = false := by decide)
    (hNy : X.N[iy]? = some y := by rfl) (hvy : Vis X.env.scope y := by first | exact Or.inl rfl | exact Or.inr (Or.inl rfl) | exact Or.inr (Or.inr rfl))
    (hdy : (y == ("__debug__" : Str)) = false := by decide) (hcdy : (y == ("__classdict__" : Str)) = false := by decide)
    (hst : starEach [.Call (.Attribute (.Name y p4) "pop" p5) [ej] [] p6] X.env = (false, eval (.Call (.Attribute (.Name y p4) "pop" p5) [ej] [] p6) X.env) :: starEach [] X.env := by rfl)
    (hst3 : starEach [ej] X.env = (false, eval ej X.env) :: starEach [] X.env := by rfl)
    (hs : swapsWith (.Call (.Attribute (.Name x p1) "append" p2) [.Call (.Attribute (.Name y p4) "pop" p5) [ej] [] p6] [] p3) none pos.line X.env = pure false := by rfl) :
    TrS X (.Expr (.Call (.Attribute (.Name x p1) "append" p2) [.Call (.Attribute (.Name y p4) "pop" p5) [ej] [] p6] [] p3) pos) (wAppPop i iy v) := by
  obtain ⟨tj, pj, sj⟩ := hj.run
  refine ⟨_, ps_expr (hm (pe_var hN hv hd hcd) (pa_cons (hm2 (pe_var hNy hvy hdy hcdy) (pa_cons pj pa_nil hst3)) pa_nil hst)) hs, fun B F0 H0 F H σ st D D' R n hw k => ?_⟩
  unfold wAppPop at hw
  split at hw
  · rename_i ds0 hsl
    obtain ⟨a, xs0, q1, q2, _⟩ := R.recv hsl
    refine ⟨_, q1, .inl ⟨rfl, _, SqL.of q2⟩, ?_⟩
    refine popS sj R n hw fun v d F' H' st' ff R' n' r hq => ?_
    unfold appS at hq
    split at hq
    · rename_i ds hsl'
      obtain ⟨hl, hq⟩ := hq
      obtain ⟨a', xs, fs, w1, w2, w3, w4, w5, w6, w7, w8, w9⟩ := R'.write n' (.refl R'.wf) hsl'
      rw [q1] at w1
      obtain rfl : a = a' := by simpa using w1
      refine ⟨a, xs, v, rfl, rfl, w2, by rw [w3.len]; exact hl, k.nx σ F' _ _ ff (w9 _ _ (fs ++ ([] ++ [])) 0 upd_keep ⟨_, upd_same, (fp3_upd w3 w4).app (.cons (own0 r) .nil)⟩ (by simpa using w5) fun b hb => .inl (by simpa using hb)) (noB_put n') hq⟩
    · exact hq.elim
  · exact hw.elim
theorem appPop_ {D : AEnds} {st : AS} {i iy p : Nat} {z : Int} {ds es : List PyData} {d : PyData} (hne : i ≠ iy) (hs : slot st i = .val (.list es) (.o 1)) (hsy : slot st iy = .val (.list ds) (.o 1)) (hj : ∀ Q : QE, Q (.int z) (.o 0) → v st Q) (hp : ixN ds.length z = some p) (hd : ds[p]? = some d) (hl : ds.length ≤ sizeLine) (hl2 : es.length < sizeLine)
    (hk : putK st iy (.val (.list (ds.eraseIdx p)) (.o 1)) fun s => putK s i (.val (.list (es ++ [d])) (.o 1)) D.nx) : wAppPop i iy v D st := by
  unfold wAppPop
  rw [hs]
  show wPopAt iy v (appS D i) st
  unfold wPopAt
  rw [hsy]
  refine hj _ ⟨hl, ?_⟩
  rw [hp]
  simp only [hd]
  unfold appS
  rw [putK_eq, putK_eq] at hk
  rw [slot_put_ne _ _ _ _ hne, hs]
  exact ⟨hl2, hk.2.2⟩
end
end AL

namespace AL
open PySem PySem.Spec PyProof.Rows L2
section
variable {X : Cx} {e1 e2 e3 e4 : Expr} {u v w x : WE} {pos : Pos}
def rDD (K : PySem.W.Frag) (f : PyData → PyData → Bool) : R2 := fun x y H Q => ∃ d e, Dp K H x d ∧ Dp K H y e ∧ PySem.W.alike d e = true ∧ d ≠ .none ∧ d.depth ≤ 60 ∧ Q (.bl (f d e)) H
theorem op_ltD (hu : X.A.units + 64 < cLine) : OpR X (compareOp .Lt) (rDD X.K PySem.W.dataLt) := by
  intro pins s σ H x y v u Q I rx ry h
  obtain ⟨d, e, hd, he, sd, se, dp, q⟩ := h
  obtain ⟨as, r1⟩ := Dp.reads I d x v hd rx
  obtain ⟨bs, r2⟩ := Dp.reads I e y u he ry
  exact PySem.W.lt_data r1 r2 sd se (by omega) ⟨.bl _, H, I, rfl, q⟩
theorem op_gtD (hu : X.A.units + 64 < cLine) : OpR X (compareOp .Gt) (rDD X.K fun d e => PySem.W.dataLt e d) := by
  intro pins s σ H x y v u Q I rx ry h
  obtain ⟨d, e, hd, he, sd, se, dp, q⟩ := h
  obtain ⟨as, r1⟩ := Dp.reads I d x v hd rx
  obtain ⟨bs, r2⟩ := Dp.reads I e y u he ry
  exact PySem.W.gt_data r1 r2 sd se (by omega) ⟨.bl _, H, I, rfl, q⟩
def aDD (f : PyData → PyData → Bool) : Op2 := fun d1 _ d2 _ Q => (nod d1 = true ∧ nod d2 = true) ∧ PySem.W.alike d1 d2 = true ∧ d1 ≠ .none ∧ d1.depth ≤ 60 ∧ Q (.bool (f d1 d2)) (.o 0)
abbrev fLtD : PyData → PyData → Bool := PySem.W.dataLt
abbrev fGtD : PyData → PyData → Bool := fun d e => PySem.W.dataLt e d
theorem opa_DD {f : PyData → PyData → Bool} : OpA X (rDD X.K f) (aDD f) := by
  refine opa_read fun H x y d1 d2 m1 m2 Q Q' h1 h2 hw k => ?_
  obtain ⟨⟨n1, n2⟩, a1, a2, a3, hq⟩ := hw
  exact ⟨d1, d2, Rp.dp _ _ h1 n1, Rp.dp _ _ h2 n2, a1, a2, a3, k _ _ (fun _ => .bl _) hq⟩
theorem te_ltD (hu : X.A.units + 64 < cLine) (h1 : TrE X e1 u) (h2 : TrE X e2 v) : TrE X (.Compare e1 [.Lt] [e2] pos) (w2 (aDD fLtD) u v) := te_cmp (op_ltD hu) opa_DD h1 h2
theorem te_gtD (hu : X.A.units + 64 < cLine) (h1 : TrE X e1 u) (h2 : TrE X e2 v) : TrE X (.Compare e1 [.Gt] [e2] pos) (w2 (aDD fGtD) u v) := te_cmp (op_gtD hu) opa_DD h1 h2
theorem tt_ltD (hu : X.A.units + 64 < cLine) (h1 : TrE X e1 u) (h2 : TrE X e2 v) : TrT X (.Compare e1 [.Lt] [e2] pos) (wTst (w2 (aDD fLtD) u v)) := tt_cmp (op_ltD hu) opa_DD h1 h2
theorem tt_gtD (hu : X.A.units + 64 < cLine) (h1 : TrE X e1 u) (h2 : TrE X e2 v) : TrT X (.Compare e1 [.Gt] [e2] pos) (wTst (w2 (aDD fGtD) u v)) := tt_cmp (op_gtD hu) opa_DD h1 h2
def DDP (f : PyData → PyData → Bool) (d1 d2 : PyData) (Q : QE) (_ : Tg Q) : Prop := (nod d1 = true ∧ nod d2 = true) ∧ PySem.W.alike d1 d2 = true ∧ d1 ≠ .none ∧ d1.depth ≤ 60 ∧ Q (.bool (f d1 d2)) (.o 0)
theorem r_DD {f : PyData → PyData → Bool} {d1 d2 : PyData} {m1 m2 : Md} {Q : QE} : aDD f d1 m1 d2 m2 Q = DDP f d1 d2 Q (tg Q) := rfl
theorem dd_ {f : PyData → PyData → Bool} {d1 d2 : PyData} {Q : QE} {t : Tg Q} (b : Bool) (h0 : nod d1 = true ∧ nod d2 = true) (h1 : PySem.W.alike d1 d2 = true) (h2 : d1 ≠ .none) (h3 : d1.depth ≤ 60) (hb : f d1 d2 = b) (hq : Q (.bool b) (.o 0)) : DDP f d1 d2 Q t := ⟨h0, h1, h2, h3, by rw [hb]; exact hq⟩
def tChain3 (r r' r'' : R2) (ta tb tc td : TE) : TE := fun σ H Q => ta σ H fun x H1 => tb σ H1 fun y H2 => r x y H2 fun z H3 => ∃ k, z = .bl k ∧
  (if k = true then tc σ H3 fun w' H4 => r' y w' H4 fun z' H5 => ∃ k', z' = .bl k' ∧ (if k' = true then td σ H5 fun q H6 => r'' w' q H6 Q else Q (.bl false) H5) else Q (.bl false) H3)
theorem pe_chain3 {a b c d : Expr} {ta tb tc td : TE} {op op' op'' : CmpOp} {r r' r'' : R2} (ho : OpR X (compareOp op) r) (ho' : OpR X (compareOp op') r') (ho'' : OpR X (compareOp op'') r'') (ha : PE X a ta) (hb : PE X b tb) (hc : PE X c tc) (hd : PE X d td)
    (hm : lastMarks [op, op', op''] [b, c, d] = false := by with_unfolding_all rfl) : PE X (.Compare a [op, op', op''] [b, c, d] pos) (tChain3 r r' r'' ta tb tc td) := by
  refine ⟨fun pins s σ H Q I h => ?_⟩
  refine Compare_chain (thn (ha.run pins s σ H _ I h) fun v s1 ⟨x, H1, I1, r1, q1⟩ => chain_link (thn (hb.run pins s1 σ H1 _ I1 q1) fun u s2 ⟨y, H2, I2, r2, q2⟩ =>
    thn (ho pins s2 σ H2 x y v u _ I2 r1 r2 q2) fun d s3 ⟨z, H3, I3, r3, k, e, q3⟩ => ?_)) hm
  subst e
  cases r3
  refine wpAny_truthy_bool ?_
  cases k with
  | false => exact ite_ff ⟨.bl false, H3, I3, rfl, q3⟩
  | true =>
    refine ite_tt (chain_link (thn (hc.run pins s3 σ H3 _ I3 q3) fun w' s4 ⟨z', H4, I4, r4, q4⟩ => thn (ho' pins s4 σ H4 y z' u w' _ I4 r2 r4 q4) fun d' s5 ⟨z2, H5, I5, r5, k2, e2, q5⟩ => ?_))
    subst e2
    cases r5
    refine wpAny_truthy_bool ?_
    cases k2 with
    | false => exact ite_ff ⟨.bl false, H5, I5, rfl, q5⟩
    | true => exact ite_tt (chain_last (thn (hd.run pins s5 σ H5 _ I5 q5) fun q' s6 ⟨z3, H6, I6, r6, q6⟩ => ho'' pins s6 σ H6 z' z3 w' q' Q I6 r4 r6 q6))
def wChn3 (g g' g'' : Int → Int → Bool) (u v w x : WE) : WE := fun st Q => u st fun d1 _ => v st fun d2 _ => match d1, d2 with
  | .int i, .int j => match g i j with
    | true => w st fun d3 _ => match d3 with
      | .int k => match g' j k with
        | true => x st fun d4 _ => match d4 with
          | .int l => Q (.bool (g'' k l)) (.o 0)
          | _ => False
        | false => Q (.bool false) (.o 0)
      | _ => False
    | false => Q (.bool false) (.o 0)
  | _, _ => False
theorem te_chain3 {op op' op'' : CmpOp} {g g' g'' : Int → Int → Bool} (c1 : CI X op g) (c2 : CI X op' g') (c3 : CI X op'' g'') (h1 : TrE X e1 u) (h2 : TrE X e2 v) (h3 : TrE X e3 w) (h4 : TrE X e4 x) (hm : lastMarks [op, op', op''] [e2, e3, e4] = false := by with_unfolding_all rfl) :
    TrE X (.Compare e1 [op, op', op''] [e2, e3, e4] pos) (wChn3 g g' g'' u v w x) := by
  obtain ⟨t1, p1, s1⟩ := h1.run
  obtain ⟨t2, p2, s2⟩ := h2.run
  obtain ⟨t3, p3, s3⟩ := h3.run
  obtain ⟨t4, p4, s4⟩ := h4.run
  refine ⟨_, pe_chain3 c1 c2 c3 p1 p2 p3 p4 hm, ?_⟩
  intro B F0 H0 F H σ st Q Q' R hw k
  refine run2 s1 s2 R hw fun x y F2 H2 d1 m1 d2 m2 f1 f2 ex r1 r2 n1 n2 dj hq => ?_
  split at hq
  · rename_i i j
    have h1 := r1.read ex.wf
    have h2 := r2.read ex.wf
    cases h1
    cases h2
    refine ⟨i, j, rfl, rfl, g i j, rfl, ?_⟩
    split at hq
    · rename_i hg
      rw [hg]
      refine iteT (s3 B F0 H0 F2 H2 σ st _ _ (R.go ex) hq fun z F3 H3 d3 m3 f3 x3 r3 n3 hq3 => ?_)
      split at hq3
      · rename_i kk
        have h3 := r3.read x3.wf
        cases h3
        refine ⟨_, _, rfl, rfl, g' j kk, rfl, ?_⟩
        have ex3 := ex.trans x3
        split at hq3
        · rename_i hg2
          rw [hg2]
          refine iteT (s4 B F0 H0 F3 H3 σ st _ _ (R.go ex3) hq3 fun z F4 H4 d4 m4 f4 x4 r4 n4 hq4 => ?_)
          split at hq4
          · have h4 := r4.read x4.wf
            cases h4
            exact ⟨_, _, rfl, rfl, k _ F4 H4 _ (.o 0) [] (ex3.trans x4) (.of (.bl _)) (fun _ h => by simp at h) hq4⟩
          · exact hq4.elim
        · rename_i hg2
          rw [hg2]
          exact iteF (k _ F3 H3 _ (.o 0) [] ex3 (.of (.bl _)) (fun _ h => by simp at h) hq3)
      · exact hq3.elim
    · rename_i hg
      rw [hg]
      exact iteF (k _ F2 H2 _ (.o 0) [] ex (.of (.bl _)) (fun _ h => by simp at h) hq)
  · exact hq.elim
theorem chn3_ {g g' g'' : Int → Int → Bool} {st : AS} {Q : QE} {i j k l : Int} {m1 m2 m3 m4 : Md} (hu : ∀ Q : QE, Q (.int i) m1 → u st Q) (hv : ∀ Q : QE, Q (.int j) m2 → v st Q) (hw : ∀ Q : QE, Q (.int k) m3 → w st Q) (hx : ∀ Q : QE, Q (.int l) m4 → x st Q)
    (hq : Q (.bool (g i j && (g' j k && g'' k l))) (.o 0)) : wChn3 g g' g'' u v w x st Q := by
  unfold wChn3
  refine hu _ (hv _ ?_)
  show (match g i j with | true => _ | false => _)
  cases h : g i j with
  | false => rw [h] at hq; exact hq
  | true =>
    rw [h] at hq
    refine hw _ ?_
    show (match g' j k with | true => _ | false => _)
    cases h2 : g' j k with
    | false => rw [h2] at hq; exact hq
    | true =>
      rw [h2] at hq
      exact hx _ hq
end
end AL

namespace AL
open PySem PySem.Spec PyProof.Rows L2
section
variable {X : Cx} {ej : Expr} {v : WE} {pos p1 : Pos}
def wAtO (i : Nat) (j : WE) : WE := fun st Q => match slot st i with
  | .val (.list ds) (.o 1) => j st fun dj _ => match dj with
    | .int z => AtK ds (.o 0) z Q (tg Q)
    | _ => False
  | _ => False
theorem te_atO (i : Nat) {x : Str} (hj : TrE X ej v) (hN : X.N[i]? = some x := by rfl) (hv : Vis X.env.scope x := by first | exact Or.inl rfl | exact Or.inr (Or.inl rfl) | exact Or.inr (Or.inr rfl))
    (hd : (x == ("__debug__" : Str)) = false := by decide) (hcd : (x == ("__classdict__" : Str)) = false := by decide) (hix : PlainIx ej := by exact fun _ _ => rfl) :
    TrE X (.Subscript (.Name x p1) ej pos) (wAtO i v) := by
  obtain ⟨tj, pj, sj⟩ := hj.run
  refine ⟨_, pe_ix ix_list (pe_var hN hv hd hcd) pj hix, fun B F0 H0 F H σ st Q Q' R hw k => ?_⟩
  unfold wAtO at hw
  split at hw
  · rename_i ds hsl
    obtain ⟨v0, fp, q1, t, fr⟩ := R.get hsl
    have t0 := t
    obtain ⟨_, _, a0, xs0, fs0, rfl, _, _, _, _⟩ := t0
    refine ⟨_, q1, sj B F0 H0 F H σ st _ (fun y H2 => rIxL X.K (.ref a0) y H2 _) R hw fun yj F1 H1 dj mj fj x1 r1 n1 hq => ?_⟩
    split at hq
    · rename_i z
      have hz := r1.read x1.wf
      cases hz
      unfold AtK at hq
      split at hq
      · rename_i d hd
        obtain ⟨_, nb1, a1, xs1, fs1, e1, e2, e3, e4, e5⟩ := t.ext x1
        injection e1 with e1
        subst e1
        unfold atI at hd
        cases hp : ixN ds.length z with
        | none => rw [hp] at hd; cases hd
        | some p =>
          rw [hp] at hd
          have hd : ds[p]? = some d := hd
          have hlt : p < ds.length := (List.getElem?_eq_some_iff.mp hd).1
          obtain ⟨u1, d1, f1, g1, g2, g3, g4, g5, _⟩ := fp3_mod p e4 hlt
          rw [hd] at g2
          cases g2
          refine ⟨a0, xs1, z, u1, rfl, rfl, SqL.of e2, ?_, k u1 F1 H1 d (.o 0) [] x1 (.of g3.1) (fun _ h => by simp at h) hq⟩
          unfold atI
          rw [e4.len, hp]
          exact g1
      · exact hq.elim
    · exact hq.elim
  · exact hw.elim
def atoJ (ds : List PyData) (Q : QE) (dj : PyData) (_ : Md) : Prop := match dj with
  | .int z => AtK ds (.o 0) z Q (tg Q)
  | _ => False
def atoK (own : AS) (j : WE) (Q : QE) : AS → Nat → Prop := fun st i => match slot st i with
  | .val (.list ds) (.o 1) => j own (atoJ ds Q)
  | _ => False
theorem r_atO {st : AS} {Q : QE} {i : Nat} : wAtO i v st Q = atoK st v Q st i := rfl
theorem r_ato0 {own r : AS} {Q : QE} {ds : List PyData} : atoK own v Q (.val (.list ds) (.o 1) :: r) 0 = v own (atoJ ds Q) := rfl
theorem r_atoS {own r : AS} {Q : QE} {x : SV} {j : Nat} : atoK own v Q (x :: r) (j + 1) = atoK own v Q r j := rfl
theorem r_atoJ {Q : QE} {ds : List PyData} {z : Int} {md : Md} : atoJ ds Q (.int z) md = AtK ds (.o 0) z Q (tg Q) := rfl
end
end AL

namespace AL
open PySem PySem.Spec PyProof.Rows L2
section
variable {X : Cx} {ea eb ec : Expr} {u v w : WE} {pos p p2 pos2 : Pos}
def rgN (a b c : Int) : Nat := (Builtin.Range.rangeSize a b c).toNat
def rgD3 (a b c : Int) : List PyData := (List.range (rgN a b c)).map fun i : Nat => .int (a + (i : Nat) * c)
def rgV3 (a b c : Int) : List V := (List.range (rgN a b c)).map fun i : Nat => V.int (a + (i : Nat) * c)
theorem rpAll_rg3 {K : PySem.W.Frag} {F : Hp} (a b c : Int) : RpAll K F (rgV3 a b c) (rgD3 a b c) := by
  unfold rgV3 rgD3
  induction List.range (rgN a b c) with
  | nil => exact .nil
  | cons i r ih => exact .cons (.int _) ih
def Rg3Ok (a b c : Int) : Prop := 0 ≤ a ∧ a ≤ 1000000 ∧ 0 ≤ b ∧ b ≤ 1000000 ∧ 1 ≤ c ∧ c ≤ 1000000
theorem rg3_le {a b c : Int} (h : Rg3Ok a b c) : rgN a b c ≤ 1000000 := by
  obtain ⟨h1, h2, h3, h4, h5, h6⟩ := h
  unfold rgN Builtin.Range.rangeSize
  rw [if_pos (by omega)]
  split
  · have := Int.ediv_le_self c (show (0 : Int) ≤ b - a - 1 by omega)
    omega
  · decide
theorem rg3_small {a b c : Int} (h : Rg3Ok a b c) : Builtin.Range.small a b c = true := by
  have hn := rg3_le h
  obtain ⟨h1, h2, h3, h4, h5, h6⟩ := h
  have e := PyProof.Rows.rangeSize_toNat a b c
  have e2 : Builtin.Range.rangeSize a b c = ((rgN a b c : Nat) : Int) := e
  have hb : (rgN a b c : Int) * c ≤ b - a - 1 + c ∨ rgN a b c = 0 := by
    unfold rgN Builtin.Range.rangeSize
    rw [if_pos (by omega)]
    split
    · left
      have := Int.ediv_mul_le (b - a - 1) (show c ≠ 0 by omega)
      have h0 := Int.ediv_nonneg (show (0 : Int) ≤ b - a - 1 by omega) (show (0 : Int) ≤ c by omega)
      rw [show (((b - a - 1) / c + 1).toNat : Int) = (b - a - 1) / c + 1 by omega, Int.add_mul]
      omega
    · right; rfl
  unfold Builtin.Range.small
  rw [e2]
  have h0 : 0 ≤ ((rgN a b c : Nat) : Int) * c := Int.mul_nonneg (by omega) (by omega)
  have hx : ((rgN a b c : Nat) : Int) * c ≤ 3000000 := by
    rcases hb with hb | hb
    · omega
    · rw [hb]; omega
  generalize ((rgN a b c : Nat) : Int) * c = y at *
  simp only [Builtin.Range.rangeFitsLong, Bool.and_eq_true, Bool.or_eq_true, decide_eq_true_eq, beq_iff_eq]
  rw [if_pos (by omega)]
  simp only [Bool.and_eq_true, decide_eq_true_eq]
  omega
def PRg3 (X : Cx) (e : Expr) (t : L2.St → Hp → (Int → Int → Int → Hp → Prop) → Prop) : Prop :=
  ∀ (pins : List (Addr × Obj)) (s : Shared) (σ : L2.St) (H : Hp) (Q : Int → Int → Int → Hp → Prop), Inv X pins σ H s → t σ H Q →
    wpAny (model X.prog X.w) X.A (eval e X.env) (fun x s' => ∃ r a b c t u v H', x = .ref r ∧ IsRange s'.heap r a b c t u v ∧ Inv X pins σ H' s' ∧ Q a b c H') X.xe s
def tRg3 (ta tb tc : TE) : L2.St → Hp → (Int → Int → Int → Hp → Prop) → Prop := fun σ H Q => ta σ H fun x H1 => tb σ H1 fun y H2 => tc σ H2 fun z H3 => ∃ i j k, x = .int i ∧ y = .int j ∧ z = .int k ∧ Rg3Ok i j k ∧ Q i j k H3
theorem prg_3 {ta tb tc : TE} (hg : Gl X "range") (hm : X.mg "range" = none) (ha : PE X ea ta) (hb : PE X eb tb) (hc : PE X ec tc) (na : starEach [ea, eb, ec] X.env = (false, eval ea X.env) :: starEach [eb, ec] X.env := by rfl)
    (nb : starEach [eb, ec] X.env = (false, eval eb X.env) :: starEach [ec] X.env := by rfl) (nc : starEach [ec] X.env = (false, eval ec X.env) :: starEach [] X.env := by rfl)
    (hp : (backTo pos (starEach [eb, ec] X.env)).any (·.1) = false := by rfl) : PRg3 X (.Call (.Name "range" p) [ea, eb, ec] [] pos) (tRg3 ta tb tc) := by
  intro pins s σ H Q I h
  refine Call_ (ld_blt I hg hm boot_range (PyProof.Rows.callWith_type1 (args_cons (thn (ha.run pins s σ H _ I h) fun v s1 ⟨x, H1, I1, r1, q1⟩ => args_cons (thn (hb.run pins s1 σ H1 _ I1 q1) fun v2 s2 ⟨y, H2, I2, r2, q2⟩ => one_arg hc I2 q2 (fun u s3 z H3 I3 r3 q => ?_) nc) nb) na) na hp))
  obtain ⟨i, j, k, rfl, rfl, rfl, ok, q⟩ := q
  obtain ⟨t, rfl⟩ := r1
  obtain ⟨t', rfl⟩ := r2
  obtain ⟨t'', rfl⟩ := r3
  have ok' := ok
  obtain ⟨h1, h2, h3, h4, h5, h6⟩ := ok'
  exact call_range_3 (by omega) ⟨_, i, j, k, _, _, _, H3, rfl, IsRange.new _ _ _ _ _ _ _, I3.kept fun b u e => Heap.get?_push_of_some _ e, q⟩ (Or.inl (PyProof.noPylong_small (by omega)))
theorem vals_rg3 {a b c : Int} {acc : Array Value} (h : ItemsOf (fun i v => ∃ t, v = .int (a + i * c) t) acc (rgN a b c)) : Vals (rgV3 a b c) acc.toList := by
  have e : acc.toList.length = rgN a b c := by rw [Array.length_toList]; exact h.1
  unfold rgV3
  rw [← e]
  refine vals_of_get acc.toList _ fun j u hj => ?_
  obtain ⟨t, rfl⟩ := h.2 j u (by rw [← hj, Array.getElem?_toList])
  exact ⟨t, rfl⟩
def tLstRg3 (te : L2.St → Hp → (Int → Int → Int → Hp → Prop) → Prop) : TE := fun σ H Q => te σ H fun a b c H1 => Rg3Ok a b c ∧ ∀ q, H1 q = none → Q (.ref q) (upd H1 q (.lst (rgV3 a b c)))
theorem pe_listRg3 {e : Expr} {te : L2.St → Hp → (Int → Int → Int → Hp → Prop) → Prop} (hc : X.calm = true) (hg : Gl X "list") (hm : X.mg "list" = none) (he : PRg3 X e te) (na : starEach [e] X.env = (false, eval e X.env) :: starEach [] X.env := by rfl) : PE X (.Call (.Name "list" p) [e] [] pos) (tLstRg3 te) := by
  refine ⟨fun pins s σ H Q I h => ?_⟩
  refine Call_ (ld_blt I hg hm boot_list (PyProof.Rows.callWith_type1 (args_cons (thn (he pins s σ H _ I h) fun x s1 ⟨r, a, b, c, t, u, v, H1, ex, hr, I1, ok, q⟩ => args_nil ?_) na) na))
  subst ex
  have hn := rg3_le ok
  refine call_list_range (n := rgN a b c) (I1.ok.hd hc) hr (rg3_small ok) (PyProof.Rows.rangeSize_toNat a b c) (by omega) fun h' tk acc c' hk e' hi => ?_
  refine ⟨.ref s1.heap.objs.size, upd H1 s1.heap.objs.size (.lst (rgV3 a b c)), I1.laid hk (Nat.le_refl _) (show ObjOk X.prog X.w _ _ _ (.lst (rgV3 a b c)) from ⟨?_, acc.toList, c', vals_rg3 hi, ?_⟩), rfl, q _ (I1.hok.fresh (Nat.le_refl _))⟩
  · rw [rgV3, List.length_map, List.length_range, sizeLine_eq]; omega
  · rw [Array.toArray_toList]; exact e'
def wLstR3 (u v w : WE) : WE := fun st Q => u st fun d1 _ => v st fun d2 _ => w st fun d3 _ => match d1, d2, d3 with
  | .int i, .int j, .int k => Rg3Ok i j k ∧ Q (.list (rgD3 i j k)) (.o 1)
  | _, _, _ => False
theorem te_listR3 (hc : X.calm = true) (ha : TrE X ea u) (hb : TrE X eb v) (hcc : TrE X ec w) (hgr : Gl X "range") (hmr : X.mg "range" = none) (hg : Gl X "list") (hm : X.mg "list" = none)
    (na : starEach [ea, eb, ec] X.env = (false, eval ea X.env) :: starEach [eb, ec] X.env := by rfl) (nb : starEach [eb, ec] X.env = (false, eval eb X.env) :: starEach [ec] X.env := by rfl) (nc : starEach [ec] X.env = (false, eval ec X.env) :: starEach [] X.env := by rfl)
    (hp : (backTo pos2 (starEach [eb, ec] X.env)).any (·.1) = false := by rfl)
    (nr : starEach [.Call (.Name "range" p2) [ea, eb, ec] [] pos2] X.env = (false, eval (.Call (.Name "range" p2) [ea, eb, ec] [] pos2) X.env) :: starEach [] X.env := by rfl) :
    TrE X (.Call (.Name "list" p) [.Call (.Name "range" p2) [ea, eb, ec] [] pos2] [] pos) (wLstR3 u v w) := by
  obtain ⟨t1, p1, s1⟩ := ha.run
  obtain ⟨t2, p2', s2⟩ := hb.run
  obtain ⟨t3, p3, s3⟩ := hcc.run
  refine ⟨_, pe_listRg3 hc hg hm (prg_3 hgr hmr p1 p2' p3 na nb nc hp) nr, ?_⟩
  intro B F0 H0 F H σ st Q Q' R hw k
  refine s1 B F0 H0 F H σ st _ _ R hw fun x F1 H1 d1 m1 f1 x1 r1 n1 hq => s2 B F0 H0 F1 H1 σ st _ _ (R.go x1) hq fun y F2 H2 d2 m2 f2 x2 r2 n2 hq => s3 B F0 H0 F2 H2 σ st _ _ (R.go (x1.trans x2)) hq fun z F3 H3 d3 m3 f3 x3 r3 n3 hq => ?_
  split at hq
  · have h1 := (r1.ext (x2.trans x3)).read x3.wf
    have h2 := (r2.ext x3).read x3.wf
    have h3 := r3.read x3.wf
    cases h1
    cases h2
    cases h3
    obtain ⟨ok, hq⟩ := hq
    refine ⟨_, _, _, rfl, rfl, rfl, ok, ok, fun q nq => ?_⟩
    obtain ⟨y1, y2, y3⟩ := newL ((x1.trans x2).trans x3) nq (rpAll_rg3 _ _ _)
    exact k _ _ _ _ _ _ y1 y2 y3 hq
  · exact hq.elim
def lr3K (v w : WE) (st : AS) (Q : QE) (d1 : PyData) (_ : Md) : Prop := v st fun d2 _ => w st fun d3 _ => match d1, d2, d3 with
  | .int i, .int j, .int k => Rg3Ok i j k ∧ Q (.list (rgD3 i j k)) (.o 1)
  | _, _, _ => False
theorem lr3_ {st : AS} {Q : QE} {i j k : Int} {m1 m2 m3 : Md} (hu : ∀ Q : QE, Q (.int i) m1 → u st Q) (hv : ∀ Q : QE, Q (.int j) m2 → v st Q) (hw : ∀ Q : QE, Q (.int k) m3 → w st Q) (h : Rg3Ok i j k) (hq : Q (.list (rgD3 i j k)) (.o 1)) : wLstR3 u v w st Q :=
  hu _ (hv _ (hw _ ⟨h, hq⟩))
end
end AL

namespace ALe
open PySem
open PySem.Sem (wp)
open AutoSeq1 (wpAny_loadPart')
theorem meets_enumT (l : Addr) (items : Array Value) :
    Meets (Builtin.«enumerate.__new__» ⟨[.type "enumerate", .ref l], []⟩) (fun _ R s => s.heap.IsTuple l items ∧
      R (.ok (.ret (.ref (s.heap.push { cls := .type "tuple_iterator", data := .fields #[.ref l, .int 0 0] }).objs.size)))
        { s with heap := (s.heap.push { cls := .type "tuple_iterator", data := .fields #[.ref l, .int 0 0] }).push { cls := .type "enumerate", data := .fields #[.none, .bool false, .ref s.heap.objs.size, rawInt 0, .none, .none] } }) :=
  .of_wp fun prog w A R s h => by
    obtain ⟨hp, g, d, tk, os⟩ := s; obtain ⟨hl, h⟩ := h
    have hsub := sub_enumerate
    have hL : Heap.IsTuple (Shared.heap ⟨hp, g, d, tk, os⟩) l items := hl
    obtain ⟨o, ho, _⟩ := id hL
    wp_walk using wpAny_loadPart' ho
    refine wpAny_stack_any fun st => wpAny_pure ?_
    split
    · rename_i c _ _ _ _ _
      cases (c == Value.type "enumerate")
      · wp_walk using wpAny_loadPart' ho, wpAny_pyIter_tuple hL
        exact ⟨_, rfl, h⟩
      · wp_walk using wpAny_loadPart' ho, wpAny_pyIter_tuple hL
        exact ⟨_, rfl, h⟩
    · wp_walk using wpAny_loadPart' ho, wpAny_pyIter_tuple hL
      exact ⟨_, rfl, h⟩
section
variable {prog : Program} {w : World} {A : Around} {E : Value → Shared → Prop} {s : Shared}
theorem call_enumT {l : Addr} {items : Array Value} {Q : Value → Shared → Prop} (hL : s.heap.IsTuple l items)
    (h : ∀ h', IsEnum h' (s.heap.objs.size + 1) s.heap.objs.size 0 .none → h'.IsTupleIter s.heap.objs.size l 0 → h'.objs.size = s.heap.objs.size + 2 →
      (∀ b o, s.heap.get? b = some o → h'.get? b = some o) → Q (.ref (s.heap.objs.size + 1)) { s with heap := h' }) :
    wpAny (model prog w) A (call (.type "enumerate") [.ref l]) Q E s := by
  refine callType_new F.called_enumerate (by decide) (F.typeCall_enumerate_1 _) (F.newCall_enumerate_1 _) (fun obj => F.args_object_init_2 obj _) F.entry_enumerate_new
    (meets_enumT l items) ⟨hL, ?_⟩
  have hz : (s.heap.push { cls := .type "tuple_iterator", data := .fields #[.ref l, .int 0 0] }).objs.size = s.heap.objs.size + 1 := Heap.size_push ..
  show _ ∧ _
  rw [hz]
  have he : IsEnum ((s.heap.push { cls := .type "tuple_iterator", data := .fields #[.ref l, .int 0 0] }).push
      { cls := .type "enumerate", data := .fields #[.none, .bool false, .ref s.heap.objs.size, rawInt 0, .none, .none] }) (s.heap.objs.size + 1) s.heap.objs.size 0 .none := by
    have := Heap.get?_push_size (s.heap.push { cls := .type "tuple_iterator", data := .fields #[.ref l, .int 0 0] })
      (o := { cls := .type "enumerate", data := .fields #[.none, .bool false, .ref s.heap.objs.size, rawInt 0, .none, .none] }) rfl
    rw [hz] at this; exact this
  refine ⟨⟨_, he, rfl⟩, h _ he ⟨_, Heap.get?_push_of_some _ (Heap.get?_push_size _ rfl), rfl, rfl⟩ (by rw [Heap.size_push, hz]) fun b o x => Heap.get?_push_of_some _ (Heap.get?_push_of_some _ x)⟩
theorem enumT_next {e it l : Addr} {i : Nat} {items : Array Value} {x old : Value} {Q : Value → Shared → Prop}
    (he : IsEnum s.heap e it i old) (hit : s.heap.IsTupleIter it l i) (hl : s.heap.IsTuple l items) (hx : items[i]? = some x) (hne : e ≠ it)
    (hQ : ∀ h', IsEnumOut h' e it ((i : Int) + 1) x s.heap.objs.size → h'.IsTupleIter it l (i + 1) →
      h'.get? s.heap.objs.size = some { cls := .type "tuple", data := .seq #[.int i s.toks, x] } → h'.objs.size = s.heap.objs.size + 1 →
      (∀ b o, b ≠ e → b ≠ it → s.heap.get? b = some o → h'.get? b = some o) → Q (.ref s.heap.objs.size) { s with heap := h', toks := s.toks + 1 }) :
    wpAny (model prog w) A (Builtin.«enumerate.__next__» ⟨[.ref e], []⟩) (fun fin s' => ∃ v, fin = .done (.ret v) ∧ Q v s') E s := by
  obtain ⟨hp, g, d, tk, os⟩ := s
  show wpAny _ _ (field (.ref e) 2 >>= _) _ _ _
  refine wpAny_bind (wpAny_field he rfl (x := .ref it) rfl ?_)
  refine wpAny_bind (RZ.nextOf_tuple_item hit hl hx fun h₁ hit₁ hs₁ => ?_)
  replace hs₁ : Heap.SameBut it hp h₁ := hs₁
  have he₁ : IsEnum h₁ e it i old := (hs₁.2 e hne).trans he
  show wpAny _ _ (field (.ref e) 3 >>= _) _ _ ⟨h₁, g, d, tk, os⟩
  refine wpAny_bind (wpAny_field he₁ rfl (x := rawInt i) rfl ?_)
  show wpAny _ _ (field (.ref e) 4 >>= _) _ _ ⟨h₁, g, d, tk, os⟩
  refine wpAny_bind (wpAny_field he₁ rfl (x := .none) rfl ?_)
  show wpAny _ _ (mkInt i >>= _) _ _ ⟨h₁, g, d, tk, os⟩
  refine wpAny_bind (wpAny_mkInt ?_)
  show wpAny _ _ (setField (.ref e) 3 (rawInt ((i : Int) + 1)) >>= _) _ _ ⟨h₁, g, d, tk + 1, os⟩
  refine wpAny_bind (wpAny_setField_rec he₁ (by simp) fun h₂ he₂ hs₂ => ?_)
  replace hs₂ : Heap.SameBut e h₁ h₂ := hs₂
  replace he₂ : IsEnum h₂ e it ((i : Int) + 1) old := he₂
  show wpAny _ _ (setField (.ref e) 4 .none >>= _) _ _ ⟨h₂, g, d, tk + 1, os⟩
  refine wpAny_bind (wpAny_setField_rec he₂ (by simp) fun h₃ he₃ hs₃ => ?_)
  replace hs₃ : Heap.SameBut e h₂ h₃ := hs₃
  replace he₃ : IsEnum h₃ e it ((i : Int) + 1) old := he₃
  show wpAny _ _ (newTuple [.int i tk, x] >>= _) _ _ ⟨h₃, g, d, tk + 1, os⟩
  refine wpAny_bind (wpAny_newTuple ?_)
  have he₄ : IsEnum (h₃.push { cls := .type "tuple", data := .seq #[.int i tk, x] }) e it ((i : Int) + 1) old := Heap.get?_push_of_some _ he₃
  generalize hh₄ : h₃.push { cls := .type "tuple", data := .seq #[.int i tk, x] } = h₄ at he₄
  have hsz : h₃.objs.size = hp.objs.size := by rw [hs₃.1, hs₂.1, hs₁.1]
  have hel : e < hp.objs.size := Heap.lt_size he
  have ht₄ : h₄.get? hp.objs.size = some { cls := .type "tuple", data := .seq #[.int i tk, x] } := by rw [← hh₄, ← hsz]; exact Heap.get?_push_size _ rfl
  have hz₄ : h₄.objs.size = hp.objs.size + 1 := by rw [← hh₄, Heap.size_push, hsz]
  have hk₄ : ∀ b o, b ≠ e → b ≠ it → hp.get? b = some o → h₄.get? b = some o := fun b o hbe hbi hb => by
    rw [← hh₄]; exact Heap.get?_push_of_some _ (hs₃.extBut b o hbe (hs₂.extBut b o hbe (hs₁.extBut b o hbi hb)))
  have hit₄ : h₄.IsTupleIter it l (i + 1) := by
    rw [← hh₄]; obtain ⟨o, ho, r⟩ := (hit₁.extBut hs₂.extBut (Ne.symm hne)).extBut hs₃.extBut (Ne.symm hne); exact ⟨o, Heap.get?_push_of_some _ ho, r⟩
  show wpAny _ _ (Builtin.SmallTypes.ownedTupleIsFree (.ref e) >>= _) _ _ ⟨h₄, g, d, tk + 1, os⟩
  rw [hsz]
  clear hh₄ he₃ hs₃ he₂ hs₂ he₁ hs₁ hit₁ hsz h₃ h₂ h₁
  refine wpAny_bind ?_
  · unfold Builtin.SmallTypes.ownedTupleIsFree
    refine wpAny_bind (wpAny_field he₄ rfl (x := .none) rfl (wpAny_pure ?_))
    simp only [if_true]
    refine wpAny_bind (wpAny_rule ?_)
    refine wpAny_bind (wpAny_field he₄ rfl (x := old) rfl ?_)
    refine wpAny_bind (wpAny_setField_rec he₄ (by simp) fun h₅ he₅ hs₅ => ?_)
    replace hs₅ : Heap.SameBut e h₄ h₅ := hs₅
    replace he₅ : IsEnum h₅ e it ((i : Int) + 1) x := he₅
    show wpAny _ _ (Builtin.SmallTypes.ownedTupleHandOut (.ref e) (.ref hp.objs.size) >>= _) _ _ ⟨h₅, g, d, tk + 1, os⟩
    refine wpAny_bind ?_
    · unfold Builtin.SmallTypes.ownedTupleHandOut
      refine wpAny_bind (wpAny_setField_rec he₅ (by simp) fun h₆ he₆ hs₆ => ?_)
      replace hs₆ : Heap.SameBut e h₅ h₆ := hs₆
      replace he₆ : IsEnumOut h₆ e it ((i : Int) + 1) x hp.objs.size := he₆
      refine wpAny_setField_rec he₆ (by simp) fun h₇ he₇ hs₇ => ?_
      replace hs₇ : Heap.SameBut e h₆ h₇ := hs₇
      replace he₇ : IsEnumOut h₇ e it ((i : Int) + 1) x hp.objs.size := he₇
      refine wpAny_bind (wpAny_letGo (wpAny_pure ⟨_, rfl, hQ h₇ he₇ ?_ ?_ ?_ ?_⟩))
      · exact ((hit₄.extBut hs₅.extBut (Ne.symm hne)).extBut hs₆.extBut (Ne.symm hne)).extBut hs₇.extBut (Ne.symm hne)
      · exact hs₇.extBut _ _ (Nat.ne_of_gt hel) (hs₆.extBut _ _ (Nat.ne_of_gt hel) (hs₅.extBut _ _ (Nat.ne_of_gt hel) ht₄))
      · rw [hs₇.1, hs₆.1, hs₅.1, hz₄]
      · exact fun b o hbe hbi hb => hs₇.extBut b o hbe (hs₆.extBut b o hbe (hs₅.extBut b o hbe (hk₄ b o hbe hbi hb)))
theorem pyNext_enumT_item {e it l : Addr} {i : Nat} {items : Array Value} {x old : Value} {Q : Option Value → Shared → Prop}
    (he : IsEnum s.heap e it i old) (hit : s.heap.IsTupleIter it l i) (hl : s.heap.IsTuple l items) (hx : items[i]? = some x) (hne : e ≠ it)
    (hQ : ∀ h', IsEnumOut h' e it ((i : Int) + 1) x s.heap.objs.size → h'.IsTupleIter it l (i + 1) →
      h'.get? s.heap.objs.size = some { cls := .type "tuple", data := .seq #[.int i s.toks, x] } → h'.objs.size = s.heap.objs.size + 1 →
      (∀ b o, b ≠ e → b ≠ it → s.heap.get? b = some o → h'.get? b = some o) → Q (some (.ref s.heap.objs.size)) { s with heap := h', toks := s.toks + 1 }) :
    wpAny (model prog w) A (pyNext (.ref e)) Q E s := by
  have hT : s.TypeIs (.ref e) "enumerate" := ⟨_, he, rfl⟩
  unfold pyNext
  exact wpAny_bind (wpAny_attempt (wpAny_callSpecial?_slot (name := Str.ofString "__next__") hT F.slot_enumerate_next
    (wpAny_call_entry F.slot_enumerate_next hT F.entry_enumerate_next
      (enumT_next he hit hl hx hne fun h' a b c d k => wpAny_pure (hQ h' a b c d k)) (F.args_enumerate_next_1 _))))
theorem pyNext_enumT_end {e it l : Addr} {i : Nat} {items : Array Value} {old : Value} {Q : Option Value → Shared → Prop} (hh : A.handled = none)
    (he : IsEnum s.heap e it i old) (hit : s.heap.IsTupleIter it l i) (hl : s.heap.IsTuple l items) (hx : items[i]? = none)
    (hQ : ∀ h', Heap.ExtBut it s.heap h' → Q none { s with heap := h' }) : wpAny (model prog w) A (pyNext (.ref e)) Q E s := by
  have hT : s.TypeIs (.ref e) "enumerate" := ⟨_, he, rfl⟩
  unfold pyNext
  refine wpAny_bind (wpAny_attempt (wpAny_callSpecial?_slot (name := Str.ofString "__next__") hT F.slot_enumerate_next
    (wpAny_call_entry F.slot_enumerate_next hT F.entry_enumerate_next ?_ (F.args_enumerate_next_1 _))))
  show wpAny _ _ (field (.ref e) 2 >>= _) _ _ _
  refine wpAny_bind (wpAny_field he rfl (x := .ref it) rfl ?_)
  refine wpAny_bind (RZ.nextOf_tuple_end hh hit hl hx fun h' x he' hx' => ?_)
  obtain ⟨o, ho, hc⟩ := hx'
  refine wpAny_bind (wpAny_isInstance (T := "StopIteration") (b := true) ⟨o, ho, hc⟩ isSubtype_stop ?_)
  exact wpAny_pure (hQ _ he')
end
end ALe
namespace AL
open PySem PySem.Spec PyProof.Rows L2
def IteT (K : PySem.W.Frag) (a : Addr) : It :=
  ⟨fun i H => ∃ (xs : List V) (x : V), SqT K H a xs ∧ xs[i]? = some x, fun i H v H' => ∃ T x, v = .ref T ∧ H T = none ∧ H' = upd H T (.tup [.int (i : Nat), x]) ∧ ∀ xs, SqT K H a xs → xs[i]? = some x, fun i H => ∃ xs : List V, SqT K H a xs ∧ xs.length ≤ i⟩
theorem turn_enumT {P : Program} {w : World} {K : PySem.W.Frag} {elts : List Expr} {kk : Nat} {tpos : Pos} (a e it : Addr) :
    Turn P w K (.Tuple elts kk tpos) (IteT K a) [e, it] e (fun i h => (∃ old, IsEnum h e it ((i : Nat) : Int) old) ∧ h.IsTupleIter it a i ∧ e ≠ it) where
  mem := by simp
  obj := fun i h st b hb => by
    obtain ⟨⟨old, he⟩, ⟨o, ho, hc, hd⟩, _⟩ := st
    have e' : b = e ∨ b = it := by simpa using hb
    rcases e' with z | z
    · rw [z]; exact ⟨_, he, fun v q => nomatch q⟩
    · rw [z]; exact ⟨o, ho, fun v q => by rw [hd] at q; cases q⟩
  keep := fun i h h' st k => let ⟨⟨old, he⟩, hi, hne⟩ := st; ⟨⟨old, k e (by simp) _ he⟩, hi.at fun o q => k it (by simp) o q, hne⟩
  item := by
    intro X hP hw hK hc i pins s σ H E I hf st hg
    subst hP hw hK
    obtain ⟨⟨old, he⟩, hit, hne⟩ := st
    obtain ⟨xs, x, hq, hx⟩ := hg
    obtain ⟨its, rv, p, hz⟩ := I.tuple hq
    obtain ⟨u, hu, ru⟩ := rv.get hx
    have hel : e < s.heap.objs.size := Heap.lt_size he
    have hil : it < s.heap.objs.size := by obtain ⟨_, q, _⟩ := hit; exact Heap.lt_size q
    refine ALe.pyNext_enumT_item he hit p (x := u) (by simpa using hu) hne fun h' ho hit' hT hsz hk => ?_
    refine ⟨_, rfl, wpAny_letOwnedTupleGo_enum (s := { s with heap := h', toks := s.toks + 1 }) ho fun h'' he' sb => ?_⟩
    have hT2 : h''.get? s.heap.objs.size = some { cls := .type "tuple", data := .seq #[.int i s.toks, u] } := (sb.2 _ (Nat.ne_of_gt hel)).trans hT
    have new : ObjOk X.prog X.w (upd H s.heap.objs.size (.tup [.int (i : Nat), x])) h'' s.heap.objs.size (.tup [.int (i : Nat), x]) :=
      ⟨by show 2 ≤ sizeLine; decide, [.int i s.toks, u], .cons ⟨_, rfl⟩ (.cons ru .nil), ⟨_, hT2, rfl, _, rfl⟩⟩
    have I1 : Inv X pins σ (upd H s.heap.objs.size (.tup [.int (i : Nat), x])) { s with heap := h'', toks := s.toks + 1 } :=
      I.turnedNew (ch := [e, it]) (fun b ob hb q => (sb.2 b (fun z => hb (by simp [z]))).trans (hk b ob (fun z => hb (by simp [z])) (fun z => hb (by simp [z])) q)) hf (Nat.le_refl _) new
    refine ⟨.ref s.heap.objs.size, _, I1, rfl, ⟨_, x, rfl, I.hok.fresh (Nat.le_refl _), rfl, fun ys hy => by rw [I.tuple_inj hy hq]; exact hx⟩, ⟨⟨u, ?_⟩, hit'.at fun o q => (sb.2 it (Ne.symm hne)).trans q, hne⟩, fun b hb => ?_⟩
    · have e1 : ((i + 1 : Nat) : Int) = (i : Int) + 1 := by omega
      rw [e1]; exact he'
    · have hb' : b < s.heap.objs.size := by
        have e' : b = e ∨ b = it := by simpa using hb
        rcases e' with z | z
        · rw [z]; exact hel
        · rw [z]; exact hil
      rw [upd_ne (Nat.ne_of_lt hb')]
      exact (hf b hb).1
  done := by
    intro X hP hw hK hc i pins s σ H E I hf st hg
    subst hP hw hK
    obtain ⟨⟨old, he⟩, hit, hne⟩ := st
    obtain ⟨xs, hq, hx⟩ := hg
    obtain ⟨its, rv, p, hz⟩ := I.tuple hq
    obtain ⟨f0, f1, f2, f3, f4, f5⟩ := hf it (by simp)
    have hl := rv.length
    exact ALe.pyNext_enumT_end (I.ok.hd hc) he hit p (by simp; omega) fun h' eb => ⟨rfl, I.turned (t' := s.toks) (fun b o hb q => eb b o hb q) f0 f1 f3 f4 f5⟩
  self := fun A i s Q E st h => let ⟨⟨_, he⟩, _⟩ := st; wpAny_pyIter_enum he h
def iEnumA (K : PySem.W.Frag) (ta : TA) : TI := fun σ H R => ta σ H fun vs H1 => ∃ a xs, vs = [.ref a] ∧ ((SqL K H1 a xs ∧ R (Ite K a) H1) ∨ (SqT K H1 a xs ∧ R (IteT K a) H1))
theorem pi_enumA {X : Cx} {e : Expr} {ta : TA} {p pos tpos : Pos} {elts : List Expr} {kk : Nat} (hg : Gl X "enumerate") (hm : X.mg "enumerate" = none) (ha : PA X [e] ta) (hs : starEach [e] X.env = [(false, eval e X.env)] := by rfl) :
    PI X (.Tuple elts kk tpos) (.Call (.Name "enumerate" p) [e] [] pos) (iEnumA X.K ta) := by
  refine ⟨fun pins s σ H R I h => ?_⟩
  refine Call_ (ld_blt I hg hm boot_enumerate (PyProof.Rows.callWith_type1 (thn (ha.run pos pins s σ H _ I h) fun us s1 ⟨vs, H1, I1, r1, q1⟩ => ?_) hs rfl))
  obtain ⟨a, xs, ex, q1⟩ := q1
  subst ex
  cases r1 with
  | cons r rr =>
    cases rr
    cases r
    have fr : ∀ b ∈ [s1.heap.objs.size + 1, s1.heap.objs.size], FpOk X pins H1 b := fun b hb => by
      have e' : b = s1.heap.objs.size + 1 ∨ b = s1.heap.objs.size := by simpa using hb
      have hle : s1.heap.objs.size ≤ b := by
        rcases e' with z | z
        · rw [z]; exact Nat.le_add_right _ _
        · rw [z]; exact Nat.le_refl _
      exact I1.fpOk hle (I1.hok.fresh hle)
    rcases q1 with ⟨hq, q⟩ | ⟨hq, q⟩
    · obtain ⟨its, rv, p', hz⟩ := I1.list hq
      refine call_enumerate_list p'.isList fun h' he hit hsz hk => wpAny_pyIter_enum he ?_
      have I2 : Inv X pins σ H1 { s1 with heap := h' } := I1.kept (t' := s1.toks) hk
      exact ⟨s1.heap.objs.size + 1, [s1.heap.objs.size + 1, s1.heap.objs.size], _, _, H1, rfl, I2, turn_enum a (s1.heap.objs.size + 1) s1.heap.objs.size, ⟨⟨.none, he⟩, hit, Nat.succ_ne_self _⟩, fr, q⟩
    · obtain ⟨its, rv, p', hz⟩ := I1.tuple hq
      refine ALe.call_enumT p' fun h' he hit hsz hk => wpAny_pyIter_enum he ?_
      have I2 : Inv X pins σ H1 { s1 with heap := h' } := I1.kept (t' := s1.toks) hk
      exact ⟨s1.heap.objs.size + 1, [s1.heap.objs.size + 1, s1.heap.objs.size], _, _, H1, rfl, I2, turn_enumT a (s1.heap.objs.size + 1) s1.heap.objs.size, ⟨⟨.none, he⟩, hit, Nat.succ_ne_self _⟩, fr, q⟩
theorem itOk_enumT {K : PySem.W.Frag} {G : Hp} {a : Addr} {vs : List V} {ds : List PyData} (h : SqT K G a vs) (hd : RpAll K G vs ds) : ItOk K G (IteT K a) (enumD 0 ds) := by
  intro i H s
  have hl := rp_mono.seqT s h
  rw [enumD_len]
  refine ⟨fun hi => ?_, fun hi => ⟨vs, hl, by rw [rpAll_len hd]; exact hi⟩⟩
  have hd' : ds[i]? = some ds[i] := List.getElem?_eq_getElem hi
  obtain ⟨v, e1, h1⟩ := rpAll_get hd hd'
  refine ⟨⟨vs, v, hl, e1⟩, fun x H' hy => ?_⟩
  obtain ⟨T, y, e2, e3, e4, e5⟩ := hy
  have e6 := e5 vs hl
  rw [e1] at e6
  cases e6
  have e7 := enumD_get ds 0 i _ hd'
  rw [Nat.zero_add] at e7
  exact ⟨_, e7, .inr ⟨T, _, _, e3, e4, e2, rfl, .cons (.int _) (.cons h1 .nil)⟩⟩
def enK2 (Q : QI) (d : PyData) (m : Md) : Prop := match d with
  | .list ds => Q (enumD 0 ds) (itm m)
  | .tuple ds => Q (enumD 0 ds) (itm m)
  | _ => False
def wEnumA (u : WE) : WI := fun st Q => u st (enK2 Q)
section
variable {X : Cx} {e : Expr} {u : WE} {p pos : Pos}
theorem ti_enumA {elts : List Expr} {kk : Nat} {tpos : Pos} (h : TrE X e u) (hg : Gl X "enumerate") (hm : X.mg "enumerate" = none) (hst : starEach [e] X.env = (false, eval e X.env) :: starEach [] X.env := by rfl) (hs : starEach [e] X.env = [(false, eval e X.env)] := by rfl) :
    TrI X (.Tuple elts kk tpos) (.Call (.Name "enumerate" p) [e] [] pos) (wEnumA u) := by
  obtain ⟨t, pp, s⟩ := h.run
  refine ⟨_, pi_enumA hg hm (pa_cons pp pa_nil hst) hs, fun B F0 H0 F H σ st Q Q' R hw k => s B F0 H0 F H σ st _ _ R hw fun x F1 H1 d md f x1 r1 n1 hq => ?_⟩
  unfold enK2 at hq
  split at hq
  · rename_i ds
    cases md with
    | b =>
      obtain ⟨a, vs, e1, h1, nB, q1⟩ := r1.list x1.wf
      refine ⟨a, vs, by rw [e1], .inl ⟨SqL.of h1, k _ F1 H1 _ .b x1 (itOk_enum (vs := vs) ?_ q1) hq⟩⟩
      show era B H1 a = _
      rw [era_nb nB]; exact h1
    | o m =>
      obtain ⟨x2, s2, h2⟩ := r1.give x1 n1
      cases h2 with
      | lst h3 h4 => exact ⟨_, _, rfl, .inl ⟨SqL.of (x2.wf.fh _ _ h3), k _ _ H1 _ (.o 0) x2 (itOk_enum h3 h4) hq⟩⟩
  · rename_i ds
    cases md with
    | b =>
      have r2 := r1.2.2.1
      cases r2 with
      | tup h3 h4 => exact ⟨_, _, rfl, .inr ⟨rp_mono.seqT era_sub h3, k _ F1 H1 _ .b x1 (itOk_enumT h3 h4) hq⟩⟩
    | o m =>
      obtain ⟨x2, s2, h2⟩ := r1.give x1 n1
      cases h2 with
      | tup h3 h4 => exact ⟨_, _, rfl, .inr ⟨rp_mono.seqT x2.wf.fh h3, k _ _ H1 _ (.o 0) x2 (itOk_enumT h3 h4) hq⟩⟩
  · exact hq.elim
end
theorem r_enumA {u : WE} {st : AS} {QQ : QI} : wEnumA u st QQ = u st (enK2 QQ) := rfl
theorem r_enA2 {QQ : QI} {ds : List PyData} {m : Nat} : enK2 QQ (.list ds) (.o m) = QQ (enumD 0 ds) (.o 0) := rfl
theorem r_enA2b {QQ : QI} {ds : List PyData} : enK2 QQ (.list ds) .b = QQ (enumD 0 ds) .b := rfl
theorem r_enA2t {QQ : QI} {ds : List PyData} {m : Nat} : enK2 QQ (.tuple ds) (.o m) = QQ (enumD 0 ds) (.o 0) := rfl
theorem r_enA2tb {QQ : QI} {ds : List PyData} : enK2 QQ (.tuple ds) .b = QQ (enumD 0 ds) .b := rfl
end AL

namespace AL
open PySem PySem.Spec PyProof.Rows L2
section
variable {X : Cx} {k : Nat} {x : Str} {p pos : Pos} {asp : ASp}
theorem te_callD0 (D : Dn X.prog X.w X.K X.mg X.base k x 0 asp) (hr : Room k X.A) (hg : Gl X x) (hdb : (x == ("__debug__" : Str)) = false := by decide) : TrE X (.Call (.Name x p) [] [] pos) (wCall 0 asp wAn) := by
  obtain ⟨f, fd, ps, G, hm, hk, hb⟩ := D.ex
  refine ⟨_, pe_call0 G hr hg hm hk hb .nil pass0 hdb, fun B F0 H0 F H σ st Q Q' R hw k' => ?_⟩
  obtain ⟨hl, hq⟩ := hw
  show spOf X.K 0 asp ([] ++ []) H Q' E0
  exact ⟨rfl, B, F, [], Q, R.wf, .nil, hq, fun v F2 H2 d md fp x2 r2 n2 q2 => k' v F2 H2 d md fp x2 r2 n2 q2⟩
end
end AL

namespace AL
open PySem PySem.Spec PyProof.Rows L2
def SixK (a b : Str) (Q : QE) (_ : Tg Q) : Prop := ∃ (i : Nat) (rest : List Nat), Builtin.Str.occurrences a b 0 a.length 1 = i :: rest ∧ Q (.int (i : Nat)) (.o 0)
def aSindex : Op2 := fun d1 _ d2 _ Q => match d1, d2 with
  | .str x, .str y => SixK x y Q (tg Q)
  | _, _ => False
section
variable {X : Cx} {o e : Expr} {u v : WE} {apos pos : Pos}
theorem te_m_sindex (h1 : TrE X o u) (h2 : TrE X e v) (hs : starEach [e] X.env = [(false, eval e X.env)] := by rfl) (hbase : attributeBase o "index" X.env (eval o X.env) = eval o X.env := by rfl) (hline : (apos.endLine == pos.line) = true := by rfl) :
    TrE X (.Call (.Attribute o "index" apos) [e] [] pos) (wM1 aSindex u v) := by
  refine te_ms1 F.slot_str_index F.type_str_index mt_sindex ?_ h1 h2 hs hbase hline
  intro H z y d2 m1 m2 Q Q' hr hw k
  unfold aSindex at hw
  split at hw
  · rename_i h1
    cases h1
    cases hr
    obtain ⟨i, rest, e1, hq⟩ := hw
    exact ⟨_, _, i, rest, rfl, rfl, e1, k _ _ (fun _ => .int _) hq⟩
  · exact hw.elim
def TixK (ds : List PyData) (z : Str) (Q : QE) (_ : Tg Q) : Prop := ∃ (ys : List Str) (j : Nat), ds = ys.map .str ∧ ys[j]? = some z ∧ (∀ m, m < j → ys[m]? ≠ some z) ∧ Q (.int (j : Nat)) (.o 0)
def tiK (Q : QE) (d1 d2 : PyData) : Prop := match d1, d2 with
  | .tuple ds, .str z => TixK ds z Q (tg Q)
  | _, _ => False
def wTidx (d : PyData) (v : WE) : WE := fun st Q => (∃ ds, d = .tuple ds) ∧ v st fun d2 _ => tiK Q d d2
theorem te_m_tindex {x : Str} {p : Pos} {d : PyData} (hg : Gl X x) (hG : GlD X.K X.mg x d) (h2 : TrE X e v) (hm : ∀ {to : TE} {t : TA}, PE X (.Name x p) to → PA X [e] t → PE X (.Call (.Attribute (.Name x p) "index" apos) [e] [] pos) (tBM X.K "tuple" (fun x xs H Q => ∃ p, ∃ ys : List Str, ∃ z j, x = .ref p ∧ xs = [.str z] ∧ SqT X.K H p (ys.map V.str) ∧ ys[j]? = some z ∧ (∀ m, m < j → ys[m]? ≠ some z) ∧ Q (.int (j : Nat)) H) to t))
    (hd : (x == ("__debug__" : Str)) = false := by decide) (hst : starEach [e] X.env = (false, eval e X.env) :: starEach [] X.env := by rfl) : TrE X (.Call (.Attribute (.Name x p) "index" apos) [e] [] pos) (wTidx d v) := by
  obtain ⟨vv, uu, hmg, r, hr, hnd⟩ := hG.ex
  obtain ⟨t2, p2, s2⟩ := h2.run
  refine ⟨_, hm (pe_glob hg hmg r hd) (pa_cons p2 pa_nil hst), fun B F0 H0 F H σ st Q Q' R hw k => ?_⟩
  obtain ⟨⟨ds, rfl⟩, hw⟩ := hw
  have h0 := hr fun _ => none
  cases h0 with
  | tup h3 h4 =>
    rename_i a vs
    rcases h3 with (h3 | ⟨_, h3⟩) | ⟨o, its, n, e1, e2, e3, e4, e5⟩
    · cases h3
    · cases h3
    show tyV X.K "tuple" (.ref a) H ∧ t2 σ H _
    refine ⟨.inr (.inl ⟨rfl, o, e1, e2, hnd a o rfl e1⟩), s2 B F0 H0 F H σ st _ _ R hw fun y F2 H2 d2 m2 f2 x2 r2 n2 hq2 => ?_⟩
    unfold tiK at hq2
    split at hq2
    · rename_i ds' z h1'
      cases h1'
      obtain ⟨ys, j, rfl, hj, hn, hq3⟩ := hq2
      have hd := r2.read x2.wf
      cases hd
      obtain rfl := rpAll_strs h4
      exact ⟨a, ys, z, j, rfl, rfl, .inr ⟨o, its, n, e1, e2, e3, e4, e5⟩, hj, hn, k _ F2 H2 _ (.o 0) [] x2 (.of (.int _)) (fun _ h => by simp at h) hq3⟩
    · exact hq2.elim
end
theorem r_sixK {x z : Str} {md md' : Md} {Q : QE} : aSindex (.str x) md (.str z) md' Q = SixK x z Q (tg Q) := rfl
theorem six_ {a b : Str} {Q : QE} {t : Tg Q} (i : Nat) (rest : List Nat) (h : Builtin.Str.occurrences a b 0 a.length 1 = i :: rest) (hq : Q (.int (i : Nat)) (.o 0)) : SixK a b Q t := ⟨i, rest, h, hq⟩
theorem r_tidx {ds : List PyData} {v : WE} {st : AS} {Q : QE} : wTidx (.tuple ds) v st Q = v st fun d2 _ => tiK Q (.tuple ds) d2 := propext ⟨fun h => h.2, fun h => ⟨⟨ds, rfl⟩, h⟩⟩
theorem r_tiK {Q : QE} {ds : List PyData} {z : Str} : tiK Q (.tuple ds) (.str z) = TixK ds z Q (tg Q) := rfl
theorem tix_ {ds : List PyData} {z : Str} {Q : QE} {t : Tg Q} (ys : List Str) (j : Nat) (h : ds = ys.map .str) (hj : ys[j]? = some z) (hn : ∀ m, m < j → ys[m]? ≠ some z) (hq : Q (.int (j : Nat)) (.o 0)) : TixK ds z Q t := ⟨ys, j, h, hj, hn, hq⟩
end AL

namespace AL
open PySem PySem.Spec PyProof.Rows L2

def tI (K : PySem.W.Frag) (w : WI) : TI := fun σ H R' => ∃ B F0 H0 F st Q, SR K B F0 H0 F H σ st ∧ w st Q ∧ ∀ J F' H' ds md, Ext K B F H F' H' → ItOk K (srcG B F' H' md) J ds → Q ds md → R' J H'
theorem TrI.pi {X : Cx} {tg e : Expr} {w : WI} (h : TrI X tg e w) : PI X tg e (tI X.K w) := by
  obtain ⟨t, p, s⟩ := h.run
  exact ⟨fun pins sh σ H Q' I ⟨B, F0, H0, F, st, Q, R, hw, k⟩ => p.run pins sh σ H Q' I (s B F0 H0 F H σ st Q Q' R hw k)⟩
theorem upd_wo_self {H : Hp} {D : Addr} {o : HO} (h : H D = some o) : H = upd (wo H D) D o := by
  rw [wo_upd]
  funext a
  by_cases e : a = D
  · subst e; rw [upd_same]; exact h
  · rw [upd_ne e]
structure AccSt (K : PySem.W.Frag) (B : Option Bx) (F1 H1 : Hp) (kd : Option Nat) (D : Addr) (acc : List PyData) (Fi Ho : Hp) (accV : List V) (fs : List Addr) : Prop where
  no : Ho D = none
  ext : Ext K B F1 H1 Fi Ho
  ac : AccR K B Fi Ho kd accV acc fs
  nd : fs.Nodup
  fr : ∀ a ∈ fs, nb B a ∧ H1 a = none
section
variable {K : PySem.W.Frag} {B : Option Bx} {F1 H1 Fi Ho Fk Hk : Hp} {kd : Option Nat} {D : Addr} {acc : List PyData} {accV : List V} {fs : List Addr}
theorem AccSt.go (h : AccSt K B F1 H1 kd D acc Fi Ho accV fs) (nBD : nb B D) (x : Ext K B Fi (upd Ho D (.lst accV)) Fk Hk) : Hk D = some (.lst accV) ∧ Ext K B Fi Ho Fk (AL.wo Hk D) ∧ AccSt K B F1 H1 kd D acc Fk (AL.wo Hk D) accV fs := by
  have hD : Hk D = some (.lst accV) := x.hh D _ nBD upd_same
  have xo := x.wo h.no nBD h.ext.wf hD
  exact ⟨hD, xo, wo_same, h.ext.trans xo, h.ac.ext xo fun a ha => (h.fr a ha).1, h.nd, h.fr⟩
theorem AccSt.add {y : V} {r : PyData} {mr : Md} {f4 : List Addr} (h : AccSt K B F1 H1 kd D acc Fi Ho accV fs) (nBD : nb B D) (x : Ext K B Fi (upd Ho D (.lst accV)) Fk Hk) (r4 : TR K B Fk Hk y r mr f4) (n4 : ∀ a ∈ f4, (upd Ho D (.lst accV)) a = none)
    (hk : eAcc kd r mr = true) : ∃ F5 fs', Ext K B Fi Ho F5 (AL.wo Hk D) ∧ AccSt K B F1 H1 kd D (acc ++ [r]) F5 (AL.wo Hk D) (accV ++ [y]) fs' := by
  have hD : Hk D = some (.lst accV) := x.hh D _ nBD upd_same
  cases kd with
  | none =>
    have xo := x.wo h.no nBD h.ext.wf hD
    have h1 := h.ac.ext xo fun a ha => (h.fr a ha).1
    exact ⟨Fk, fs, xo, wo_same, h.ext.trans xo, ⟨by rw [List.length_append, List.length_append, h1.1]; rfl, h1.2⟩, h.nd, h.fr⟩
  | some m =>
    obtain ⟨F5, g5, x5, _, s5, o5, nd5, fr5, _, _⟩ := r4.item x n4 hk
    have xo := x5.wo h.no nBD h.ext.wf hD
    have h1 : Fp3 (Own K F5 (AL.wo Hk D) m) accV acc fs := h.ac.ext xo fun a ha => (h.fr a ha).1
    have gD : ∀ a ∈ g5, a ≠ D := fun a ha q => by
      have := (fr5 a ha).2
      rw [q, upd_same] at this; cases this
    have o6 : Own K F5 (AL.wo Hk D) m y r g5 := own_mono (Same.refl _) m _ _ _ o5 (fun a ha o h => by rw [wo_ne (gD a ha)]; exact h) fun _ _ h => h
    have frO : ∀ a ∈ g5, Ho a = none := fun a ha => by
      have := (fr5 a ha).2
      rw [upd_ne (gD a ha)] at this; exact this
    refine ⟨F5, fs ++ (g5 ++ []), xo, wo_same, h.ext.trans xo, Fp3.app h1 (.cons o6 .nil), ?_, fun a ha => ?_⟩
    · rw [List.append_nil]
      refine fp3_nodup_app h.nd nd5 fun a ha hb => ?_
      obtain ⟨⟨ys, hy⟩, _⟩ := fp3_live (fun v d f => own_live m v d f) (show Fp3 (Own K Fi Ho m) accV acc fs from h.ac) a ha
      rw [frO a hb] at hy; cases hy
    · rw [List.append_nil] at ha
      rcases List.mem_append.mp ha with q | q
      · exact h.fr a q
      · exact ⟨(fr5 a q).1, h.ext.old (fr5 a q).1 (frO a q)⟩
end
def okV (st2 : AS) : List Nat → Prop
  | [] => True
  | i :: r => (match slot st2 i with
    | .dead => True
    | .val _ (.o 0) => True
    | _ => False) ∧ okV st2 r
def Ok2 (vs : List Nat) (st st2 : AS) : Prop := wipeS st2 vs = wipeS st vs ∧ okV st2 vs
theorem okV_of {st2 : AS} : ∀ {vs : List Nat}, okV st2 vs → ∀ i ∈ vs, slot st2 i = .dead ∨ ∃ d, slot st2 i = .val d (.o 0)
  | [], _, i, hi => by cases hi
  | v :: r, h, i, hi => by
    rcases List.mem_cons.mp hi with rfl | hi
    · have h1 := h.1
      split at h1
      · rename_i e; exact .inl e
      · rename_i d e; exact .inr ⟨d, e⟩
      · exact h1.elim
    · exact okV_of h.2 i hi
theorem wipeS_len (st : AS) : ∀ vs : List Nat, (wipeS st vs).length = st.length
  | [] => rfl
  | v :: vs => by rw [wipeS, put_len, wipeS_len st vs]
theorem wipeS_in {st : AS} {i : Nat} : ∀ {vs : List Nat}, i ∈ vs → slot (wipeS st vs) i = .dead
  | v :: vs, h => by
    rw [wipeS]
    by_cases e : i = v
    · subst e
      by_cases z : i < (wipeS st vs).length
      · exact slot_put_same _ _ _ z
      · exact slot_ge _ _ (by rw [put_len]; omega)
    · rw [slot_put_ne _ _ _ _ e]
      exact wipeS_in (by rcases List.mem_cons.mp h with q | q; exact absurd q e; exact q)
theorem wipeS_out {st : AS} {i : Nat} : ∀ {vs : List Nat}, i ∉ vs → slot (wipeS st vs) i = slot st i
  | [], _ => rfl
  | v :: vs, h => by
    rw [wipeS, slot_put_ne _ _ _ _ fun e => h (by rw [e]; exact List.mem_cons_self ..)]
    exact wipeS_out fun m => h (List.mem_cons_of_mem _ m)
theorem SR.over {K : PySem.W.Frag} {B : Option Bx} {F0 H0 F0' H0' F H H2 : Hp} {σ σ2 : L2.St} {st st2 : AS} {vs : List Nat} (R : SR K B F0 H0 F H σ st) (R2 : SR K B F0' H0' F H2 σ2 st2) (hw : L2.wipe σ2 vs = L2.wipe σ vs) (ok : Ok2 vs st st2) : SR K B F0 H0 F H σ2 st2 := by
  have Rw := R.wipe vs
  have ho : ∀ i, i ∉ vs → slot st2 i = slot (wipeS st vs) i ∧ σ2[i]? = (L2.wipe σ vs)[i]? := fun i hi => ⟨by rw [← ok.1, wipeS_out hi], by rw [← hw, wipe_out hi]⟩
  obtain ⟨fpf, h1, h2, h3, h4⟩ := Rw.own
  refine ⟨R.ext, R2.len, ⟨fpf, fun i d md q => ?_, fun i q => ?_, h3, h4⟩, fun i q => ?_, fun i ns q => ?_⟩
  · by_cases hi : i ∈ vs
    · have e : fpf i = [] := h2 i fun d md z => by rw [wipeS_in hi] at z; cases z
      rcases okV_of ok.2 i hi with z | ⟨d', z⟩
      · rw [z] at q; cases q
      · rw [z] at q
        cases q
        obtain ⟨v, fp, e1, t, _⟩ := R2.get z
        exact ⟨v, e1, by rw [e]; exact .of t.2.2.1⟩
    · obtain ⟨e1, e2⟩ := ho i hi
      rw [e1] at q
      rw [e2]
      exact h1 i d md q
  · by_cases hi : i ∈ vs
    · exact h2 i fun d md z => by rw [wipeS_in hi] at z; cases z
    · exact h2 i fun d md z => q d md (by rw [(ho i hi).1]; exact z)
  · by_cases hi : i ∈ vs
    · rcases okV_of ok.2 i hi with z | ⟨d', z⟩ <;> rw [z] at q <;> cases q
    · obtain ⟨e1, e2⟩ := ho i hi
      rw [e1] at q
      rw [e2]
      exact Rw.box i q
  · by_cases hi : i ∈ vs
    · rcases okV_of ok.2 i hi with z | ⟨d', z⟩ <;> rw [z] at q <;> cases q
    · obtain ⟨e1, e2⟩ := ho i hi
      rw [e1] at q
      rw [e2]
      exact Rw.scr i ns q
def wCmp2 (kd : Option Nat) (vs vs1 : List Nat) (wi : WI) (g : WG) (c : WT) (wi1 : WI) (g1 : WG) (c1 : WT) (u : WE) (st : AS) (P : List PyData → Prop) : Prop := wi st fun ds md => isO md = true ∧ ∃ I : Nat → List PyData → Prop, I 0 [] ∧
  (∀ i d acc, ds[i]? = some d → I i acc → ∃ Qg, g d (.o 0) (wipeS st vs) Qg ∧ ∀ st2, Qg st2 → ∃ Qc, c st2 Qc ∧ ∀ k, Qc k → match k with
    | true => ∃ Q1 : List PyData → Md → Prop, wi1 st2 Q1 ∧ ∀ ds1 md1, Q1 ds1 md1 → isO md1 = true ∧ Ok2 vs st st2 ∧ ∃ I1 : Nat → List PyData → Prop, I1 0 acc ∧
      (∀ j d1 acc1, ds1[j]? = some d1 → I1 j acc1 → g1 d1 (.o 0) (wipeS st2 vs1) fun st3 => c1 st3 fun k => match k with
        | true => u st3 fun r mr => eAcc kd r mr = true ∧ acc1.length < sizeLine ∧ I1 (j + 1) (acc1 ++ [r])
        | false => I1 (j + 1) acc1) ∧ ∀ acc1, I1 ds1.length acc1 → I (i + 1) acc1
    | false => I (i + 1) acc) ∧
  ∀ acc, I ds.length acc → P acc
def LcI (K : PySem.W.Frag) (B : Option Bx) (F1 H1 F4 H4 : Hp) (kd : Option Nat) (D : Addr) (I : Nat → List PyData → Prop) (n i : Nat) (Hh : Hp) : Prop := i ≤ n ∧ ∃ Fi Ho acc accV fs, Hh = upd Ho D (.lst accV) ∧ AccSt K B F1 H1 kd D acc Fi Ho accV fs ∧ Ext K B F4 H4 Fi Ho ∧ I i acc
theorem LcI.dn {K : PySem.W.Frag} {B : Option Bx} {F1 H1 F4 H4 Hk : Hp} {kd : Option Nat} {D : Addr} {I : Nat → List PyData → Prop} {n i : Nat} (hi : i ≤ n) {Fi : Hp} {acc : List PyData} {accV : List V} {fs : List Addr} (hD : Hk D = some (.lst accV)) (S : AccSt K B F1 H1 kd D acc Fi (AL.wo Hk D) accV fs)
    (x : Ext K B F4 H4 Fi (AL.wo Hk D)) (h : I i acc) : LcI K B F1 H1 F4 H4 kd D I n i Hk := ⟨hi, Fi, _, acc, accV, fs, upd_wo_self hD, S, x, h⟩
theorem isO_ex {md : Md} (h : isO md = true) : ∃ m, md = .o m := by
  cases md with
  | o m => exact ⟨m, rfl⟩
  | b => exact absurd h (by simp [isO])
section
variable {K : PySem.W.Frag}
theorem comp2_core {kd : Option Nat} {ix ix1 vs vs1 : List Nat} {ti : TI} {wi wi1 : WI} {g g1 : WG} {c c1 : WT} {u : WE} (hix : ∀ i ∈ ix, i ∈ vs) (hix1 : ∀ i ∈ ix1, i ∈ vs1)
    (si : ∀ B F0 H0 F H σ st Q (Q' : It → Hp → Prop), SR K B F0 H0 F H σ st → wi st Q → (∀ J F' H' ds md, Ext K B F H F' H' → ItOk K (srcG B F' H' md) J ds → Q ds md → Q' J H') → ti σ H Q') :
    ∀ B F0 H0 F H σ st P (Q' : VK), SR K B F0 H0 F H σ st → wCmp2 kd vs vs1 wi g c wi1 g1 c1 u st P → (∀ D Fi Ho acc accV fs, Ho D = none → Ext K B F H Fi Ho → AccR K B Fi Ho kd accV acc fs → fs.Nodup → (∀ a ∈ fs, nb B a ∧ H a = none) → P acc → Q' (.ref D) (upd Ho D (.lst accV))) →
      tLc2 ti (tG K ix g) (tT K c) (tI K wi1) (tG K ix1 g1) (tT K c1) (tE K u) vs vs1 σ H Q' := by
  intro B F0 H0 F H σ st P Q' R hw k
  refine si B F0 H0 F H σ st _ _ R hw fun J F1 H1 ds md x1 ok hq D nD => ?_
  obtain ⟨ho, I, i0, turn, done⟩ := hq
  obtain ⟨m0, rfl⟩ := isO_ex ho
  have nBD := x1.wf.new nD
  refine ⟨fun i mm Hh => mm = ds.length - i ∧ LcI K B F1 H1 F1 H1 kd D I ds.length i Hh, ⟨_, rfl, Nat.zero_le _, F1, H1, [], [], [], rfl, ⟨nD, .refl x1.wf, ?_, List.nodup_nil, fun _ h => by simp at h⟩, .refl x1.wf, i0⟩, ?_⟩
  · cases kd with
    | some m => exact .nil
    | none => exact ⟨rfl, rfl⟩
  rintro i mm Hh ⟨rfl, hi, Fi, Ho, acc, accV, fs, rfl, S, xi, hI⟩
  have xD := Ext.laid (o := .lst accV) S.ext.wf S.no
  have sG : Same F1 (upd Ho D (.lst accV)) := (S.ext.ff.trans S.ext.wf.fh).trans fun a o h => by rw [upd_ne (ne_of_none h S.no)]; exact h
  by_cases hlt : i < ds.length
  · obtain ⟨go, yld⟩ := (ok i _ sG).1 hlt
    refine .inr ⟨go, LcI K B F1 H1 F1 H1 kd D I ds.length (i + 1), fun H' h => ⟨ds.length - (i + 1), by omega, rfl, h⟩, fun x H2 hy => ?_⟩
    obtain ⟨d, hd, hc⟩ := yld x H2 hy
    have fin : ∀ (Fk Hk : Hp), Ext K B Fi (upd Ho D (.lst accV)) Fk Hk → Rp K Fk x d → tG K ix g x (wipe σ vs) Hk fun σ2 H2 => wipe σ2 vs = wipe σ vs ∧ tT K c σ2 H2 fun b H3 =>
        if b = true then tI K wi1 σ2 H3 fun J1 H4 => ∃ W1 : Nat → Nat → Hp → Prop, (∃ m, W1 0 m H4) ∧ ∀ j k H, W1 j k H →
          (J1.stop j H ∧ LcI K B F1 H1 F1 H1 kd D I ds.length (i + 1) H) ∨ (J1.go j H ∧ ∃ Nx1 : Hp → Prop, (∀ H', Nx1 H' → ∃ k', k' < k ∧ W1 (j + 1) k' H') ∧ ∀ x H', J1.yld j H x H' → tG K ix1 g1 x (wipe σ2 vs1) H' fun σ3 H5 => wipe σ3 vs1 = wipe σ2 vs1 ∧ tT K c1 σ3 H5 fun b H6 =>
            if b = true then tE K u σ3 H6 fun y H7 => ∃ acc, H7 D = some (.lst acc) ∧ acc.length < sizeLine ∧ Nx1 (upd H7 D (.lst (acc ++ [y]))) else Nx1 H6)
        else LcI K B F1 H1 F1 H1 kd D I ds.length (i + 1) H3 := fun Fk Hk xk hr => by
      have Rk := ((((R.go x1).go S.ext).go xD).go xk).wipe vs
      obtain ⟨Qg, hg, hgk⟩ := turn i d acc hd hI
      refine ⟨B, F0, H0, Fk, _, d, .o 0, _, Rk, .of hr, hg, fun σ2 st2 R2 _ w2 q2 => ?_⟩
      obtain ⟨Qc, hc', hck⟩ := hgk st2 q2
      have hw2 : wipe σ2 vs = wipe σ vs := by rw [w2 vs hix, wipe_wipe]
      refine ⟨hw2, B, F0, H0, Fk, st2, _, R2, hc', fun q F3 H3 x3 hq3 => ?_⟩
      have hq3 := hck q hq3
      cases q with
      | false =>
        obtain ⟨hD3, xo3, S3⟩ := S.go nBD (xk.trans x3)
        exact iteF (.dn hlt hD3 S3 (xi.trans xo3) hq3)
      | true =>
        obtain ⟨Q1, hw1, hk1⟩ := hq3
        refine iteT ⟨B, F0, H0, F3, st2, _, R2.go x3, hw1, fun J1 F4 H4 ds1 md1 x4 ok1 hq4 => ?_⟩
        have hq4 := hk1 _ _ hq4
        obtain ⟨ho1, hok2, I1, i10, turn1, done1⟩ := hq4
        obtain ⟨m1, rfl⟩ := isO_ex ho1
        have xk4 := (xk.trans x3).trans x4
        obtain ⟨hD4, xo4, S4⟩ := S.go nBD xk4
        have Rb : SR K B F0 H0 F4 (AL.wo H4 D) σ2 st2 := ((R.go x1).go S4.ext).over ((R2.go x3).go x4) hw2 hok2
        refine ⟨fun j kk Hh => kk = ds1.length - j ∧ LcI K B F1 H1 F4 (AL.wo H4 D) kd D I1 ds1.length j Hh, ⟨_, rfl, .dn (Nat.zero_le _) hD4 S4 (.refl S4.ext.wf) i10⟩, ?_⟩
        rintro j kk Hh ⟨rfl, hj, Fj, Hj, acc1, accV1, fs1, rfl, Sj, xj, hI1⟩
        have xDj := Ext.laid (o := .lst accV1) Sj.ext.wf Sj.no
        have sG1 : Same F4 (upd Hj D (.lst accV1)) := (xj.ff.trans Sj.ext.wf.fh).trans fun a o h => by rw [upd_ne (ne_of_none h Sj.no)]; exact h
        by_cases hlt1 : j < ds1.length
        · obtain ⟨go1, yld1⟩ := (ok1 j _ sG1).1 hlt1
          refine .inr ⟨go1, LcI K B F1 H1 F4 (AL.wo H4 D) kd D I1 ds1.length (j + 1), fun H' h => ⟨ds1.length - (j + 1), by omega, rfl, h⟩, fun x H2 hy => ?_⟩
          obtain ⟨d1, hd1, hc1⟩ := yld1 x H2 hy
          have fin1 : ∀ (Fk Hk : Hp), Ext K B Fj (upd Hj D (.lst accV1)) Fk Hk → Rp K Fk x d1 → tG K ix1 g1 x (wipe σ2 vs1) Hk fun σ3 H5 => wipe σ3 vs1 = wipe σ2 vs1 ∧ tT K c1 σ3 H5 fun b H6 =>
              if b = true then tE K u σ3 H6 fun y H7 => ∃ acc, H7 D = some (.lst acc) ∧ acc.length < sizeLine ∧ LcI K B F1 H1 F4 (AL.wo H4 D) kd D I1 ds1.length (j + 1) (upd H7 D (.lst (acc ++ [y]))) else LcI K B F1 H1 F4 (AL.wo H4 D) kd D I1 ds1.length (j + 1) H6 := fun Fk Hk xk hr => by
            have Rk := (((Rb.go xj).go xDj).go xk).wipe vs1
            refine ⟨B, F0, H0, Fk, _, d1, .o 0, _, Rk, .of hr, turn1 j d1 acc1 hd1 hI1, fun σ3 st3 R3 _ w3 q3 => ?_⟩
            refine ⟨by rw [w3 vs1 hix1, wipe_wipe], B, F0, H0, Fk, st3, _, R3, q3, fun q F5 H5 x5 hq5 => ?_⟩
            cases q with
            | false =>
              obtain ⟨hD5, xo5, S5⟩ := Sj.go nBD (xk.trans x5)
              exact iteF (.dn hlt1 hD5 S5 (xj.trans xo5) hq5)
            | true =>
              refine iteT ⟨B, F0, H0, F5, st3, _, R3.go x5, hq5, fun y F6 H6 r mr f6 x6 r6 n6 hq6 => ?_⟩
              obtain ⟨hk, hz, hI'⟩ := hq6
              have xk5 := xk.trans x5
              have xk6 := xk5.trans x6
              have hD6 : H6 D = some (.lst accV1) := xk6.hh D _ nBD upd_same
              obtain ⟨F7, fs7, xo7, S7⟩ := Sj.add nBD xk6 r6 (fun a ha => xk5.old (r6.2.1 a ha) (n6 a ha)) hk
              refine ⟨accV1, hD6, by rw [Sj.ac.len]; exact hz, ?_⟩
              exact ⟨hlt1, F7, AL.wo H6 D, _, _, fs7, wo_upd.symm, S7, xj.trans xo7, hI'⟩
          rcases hc1 with ⟨e1, hr⟩ | ⟨T, xs, es, nT, e1, e2, e3, hr⟩
          · subst e1
            exact fin1 Fj _ (.refl xDj.wf) (rp_mono xj.ff _ _ hr)
          · subst e1 e2 e3
            have xl := Ext.laidF (o := .tup xs) xDj.wf nT
            exact fin1 _ _ xl (.tup (SqT.of upd_same) (rpAll_mono (xj.ff.trans xl.ff) _ _ hr))
        · have e : j = ds1.length := by omega
          subst e
          exact .inl ⟨(ok1 _ _ sG1).2 (Nat.le_refl _), hlt, Fj, Hj, acc1, accV1, fs1, rfl, Sj, Sj.ext, done1 acc1 hI1⟩
    rcases hc with ⟨e1, hr⟩ | ⟨T, xs, es, nT, e1, e2, e3, hr⟩
    · subst e1
      exact fin Fi _ (.refl xD.wf) (rp_mono S.ext.ff _ _ hr)
    · subst e1 e2 e3
      have xl := Ext.laidF (o := .tup xs) xD.wf nT
      exact fin _ _ xl (.tup (SqT.of upd_same) (rpAll_mono (S.ext.ff.trans xl.ff) _ _ hr))
  · have e : i = ds.length := by omega
    subst e
    exact .inl ⟨(ok _ _ sG).2 (Nat.le_refl _), k D Fi Ho acc accV fs S.no (x1.trans S.ext) S.ac S.nd (fun a ha => ⟨(S.fr a ha).1, x1.old (S.fr a ha).1 (S.fr a ha).2⟩) (done acc hI)⟩
def wComp2 (m : Nat) (vs vs1 : List Nat) (wi : WI) (g : WG) (c : WT) (wi1 : WI) (g1 : WG) (c1 : WT) (u : WE) : WE := fun st Q => wCmp2 (some m) vs vs1 wi g c wi1 g1 c1 u st fun acc => Q (.list acc) (.o (m + 1))
theorem comp2_own {m : Nat} {ix ix1 vs vs1 : List Nat} {ti : TI} {wi wi1 : WI} {g g1 : WG} {c c1 : WT} {u : WE} (hix : ∀ i ∈ ix, i ∈ vs) (hix1 : ∀ i ∈ ix1, i ∈ vs1)
    (si : ∀ B F0 H0 F H σ st Q (Q' : It → Hp → Prop), SR K B F0 H0 F H σ st → wi st Q → (∀ J F' H' ds md, Ext K B F H F' H' → ItOk K (srcG B F' H' md) J ds → Q ds md → Q' J H') → ti σ H Q') :
    ∀ B F0 H0 F H σ st (Q : QE) (Q' : VK), SR K B F0 H0 F H σ st → wComp2 m vs vs1 wi g c wi1 g1 c1 u st Q → (∀ v F' H' d md fp, Ext K B F H F' H' → TR K B F' H' v d md fp → (∀ a ∈ fp, H a = none) → Q d md → Q' v H') → tLc2 ti (tG K ix g) (tT K c) (tI K wi1) (tG K ix1 g1) (tT K c1) (tE K u) vs vs1 σ H Q' := by
  intro B F0 H0 F H σ st Q Q' R hw k
  refine comp2_core hix hix1 si B F0 H0 F H σ st _ Q' R hw fun D Fi Ho acc accV fs nD x ha nd fr hp => ?_
  have xD := Ext.laid (o := .lst accV) x.wf nD
  have nB := x.wf.new nD
  refine k _ Fi _ (.list acc) (.o (m + 1)) (D :: fs) (x.trans xD) ⟨?_, fun a h => ?_, D, accV, fs, rfl, upd_same, x.wf.fh.free nD, fp3_ext ha xD fun a h => (fr a h).1, rfl⟩ (fun a h => ?_) hp
  · refine List.nodup_cons.mpr ⟨fun h => ?_, nd⟩
    obtain ⟨⟨ys, hy⟩, _⟩ := fp3_live (fun v d f => own_live m v d f) (show Fp3 (Own K Fi Ho m) accV acc fs from ha) D h
    rw [nD] at hy; cases hy
  · rcases List.mem_cons.mp h with q | q
    · rw [q]; exact nB
    · exact (fr a q).1
  · rcases List.mem_cons.mp h with q | q
    · rw [q]; exact x.old nB nD
    · exact (fr a q).2
end
section
variable {X : Cx} {elt tg iter tg1 iter1 : Expr} {ifs ifs1 : List Expr} {scope : Scope} {own : List (Str × Nat)} {pos spos : Pos} {ix ix1 vs1 : List Nat} {wi wi1 : WI} {g g1 : WG} {c c1 : WT} {u : WE}
theorem te_comp2 (m : Nat) (vs1 : List Nat) (hc : X.calm = true) (hN : X.N.Nodup) (hi : TrI X tg iter wi) (ok : BlkOk X.N X.env.scope scope own)
    (hg : ∀ (s : Shared) (H : Hp) (C : Addr) (cl : List (Str × Addr)) (fp : List Addr), TrG (X.blk s H scope (compEnvC scope cl C X.env) fp) ix tg g)
    (ht : ∀ (s : Shared) (H : Hp) (C : Addr) (cl : List (Str × Addr)) (fp : List Addr), TrTs (X.blk s H scope (compEnvC scope cl C X.env) fp) ifs c)
    (hi1 : ∀ (s : Shared) (H : Hp) (C : Addr) (cl : List (Str × Addr)) (fp : List Addr), TrI (X.blk s H scope (compEnvC scope cl C X.env) fp) tg1 iter1 wi1)
    (hg1 : ∀ (s : Shared) (H : Hp) (C : Addr) (cl : List (Str × Addr)) (fp : List Addr), TrG (X.blk s H scope (compEnvC scope cl C X.env) fp) ix1 tg1 g1)
    (ht1 : ∀ (s : Shared) (H : Hp) (C : Addr) (cl : List (Str × Addr)) (fp : List Addr), TrTs (X.blk s H scope (compEnvC scope cl C X.env) fp) ifs1 c1)
    (he : ∀ (s : Shared) (H : Hp) (C : Addr) (cl : List (Str × Addr)) (fp : List Addr), TrE (X.blk s H scope (compEnvC scope cl C X.env) fp) elt u) (hv : ∀ i ∈ vs1, i ∈ own.map (·.2) := by decide) (hix : ∀ i ∈ ix, i ∈ own.map (·.2) := by decide) (hix1 : ∀ i ∈ ix1, i ∈ vs1 := by decide) (hs : ∀ x, foldedSetIterable iter X.env x = pure x := by intro _; rfl) (hs1 : ∀ env x, foldedSetIterable iter1 env x = pure x := by intro _ _; rfl) :
    TrE X (.ListComp elt [⟨tg, iter, ifs, 0⟩, ⟨tg1, iter1, ifs1, 0⟩] scope pos) (wComp2 m (own.map (·.2)) vs1 wi g c wi1 g1 c1 u) := by
  obtain ⟨ti, pi, si⟩ := hi.run
  exact ⟨_, pe_lc2 (te := tE X.K u) (g := tG X.K ix g) (tt := tT X.K c) (wi1 := tI X.K wi1) (g1 := tG X.K ix1 g1) (tt1 := tT X.K c1) hc hN pi ok hv (fun s H C cl fp => (hg s H C cl fp).pg) (fun s H C cl fp => (ht s H C cl fp).run) (fun s H C cl fp => (hi1 s H C cl fp).pi) (fun s H C cl fp => (hg1 s H C cl fp).pg) (fun s H C cl fp => (ht1 s H C cl fp).run) (fun s H C cl fp => (he s H C cl fp).pe) hs hs1, comp2_own hix hix1 si⟩
theorem ts_comp2 (i : Nat) (keep : Bool) (m : Nat) (vs1 : List Nat) {y : Str} {py : Pos} (hc : X.calm = true) (hN : X.N.Nodup) (hyl : X.env.scope.names.lookup y = some .local)
    (hsw : swapsWith (.ListComp elt [⟨tg, iter, ifs, 0⟩, ⟨tg1, iter1, ifs1, 0⟩] scope pos) (some (.Name y py)) spos.line X.env = pure true) (hi : TrI X tg iter wi) (ok : BlkOk X.N X.env.scope scope own)
    (hg : ∀ (s : Shared) (H : Hp) (C : Addr) (cl : List (Str × Addr)) (fp : List Addr), TrG (X.blk s H scope (compEnvC scope cl C X.env) fp) ix tg g)
    (ht : ∀ (s : Shared) (H : Hp) (C : Addr) (cl : List (Str × Addr)) (fp : List Addr), TrTs (X.blk s H scope (compEnvC scope cl C X.env) fp) ifs c)
    (hi1 : ∀ (s : Shared) (H : Hp) (C : Addr) (cl : List (Str × Addr)) (fp : List Addr), TrI (X.blk s H scope (compEnvC scope cl C X.env) fp) tg1 iter1 wi1)
    (hg1 : ∀ (s : Shared) (H : Hp) (C : Addr) (cl : List (Str × Addr)) (fp : List Addr), TrG (X.blk s H scope (compEnvC scope cl C X.env) fp) ix1 tg1 g1)
    (ht1 : ∀ (s : Shared) (H : Hp) (C : Addr) (cl : List (Str × Addr)) (fp : List Addr), TrTs (X.blk s H scope (compEnvC scope cl C X.env) fp) ifs1 c1)
    (he : ∀ (s : Shared) (H : Hp) (C : Addr) (cl : List (Str × Addr)) (fp : List Addr), TrE (X.blk s H scope (compEnvC scope cl C X.env) fp) elt u) (hy : X.N[i]? = some y := by rfl) (hv : ∀ i ∈ vs1, i ∈ own.map (·.2) := by decide) (hix : ∀ i ∈ ix, i ∈ own.map (·.2) := by decide) (hix1 : ∀ i ∈ ix1, i ∈ vs1 := by decide) (hs : ∀ x, foldedSetIterable iter X.env x = pure x := by intro _; rfl) (hs1 : ∀ env x, foldedSetIterable iter1 env x = pure x := by intro _ _; rfl) :
    TrS X (.Assign [.Name y py] (.ListComp elt [⟨tg, iter, ifs, 0⟩, ⟨tg1, iter1, ifs1, 0⟩] scope pos) spos) (wSet i keep (wComp2 m (own.map (·.2)) vs1 wi g c wi1 g1 c1 u)) := by
  obtain ⟨ti, pi, si⟩ := hi.run
  refine ⟨_, ps_setLc2 (te := tE X.K u) (g := tG X.K ix g) (tt := tT X.K c) (wi1 := tI X.K wi1) (g1 := tG X.K ix1 g1) (tt1 := tT X.K c1) hc hN hy hyl hsw pi ok hv (fun s H C cl fp => (hg s H C cl fp).pg) (fun s H C cl fp => (ht s H C cl fp).run) (fun s H C cl fp => (hi1 s H C cl fp).pi) (fun s H C cl fp => (hg1 s H C cl fp).pg) (fun s H C cl fp => (ht1 s H C cl fp).run) (fun s H C cl fp => (he s H C cl fp).pe) hs hs1, fun B F0 H0 F H σ st D D' R n hw k => ?_⟩
  refine comp2_own hix hix1 si B F0 H0 F H σ st _ _ R hw fun v F' H' d md fp x r fr q => ?_
  obtain ⟨hi', q⟩ := q
  split at q
  · rename_i m hk
    obtain ⟨F2, s2, R2⟩ := R.store n x r fr hi' hk
    exact k.nx _ F2 H' _ s2 R2 (noB_put n) q
  · exact q.elim
end
section
variable {st : AS} {Q : QE} {u : WE} {c c1 : WT} {g g1 : WG} {wi wi1 : WI} {vs vs1 : List Nat} {m : Nat} {kd : Option Nat} {md : Md} {ds : List PyData}
def Cmp2P (kd : Option Nat) (vs vs1 : List Nat) (g : WG) (c : WT) (wi1 : WI) (g1 : WG) (c1 : WT) (u : WE) (st : AS) (P : List PyData → Prop) (ds : List PyData) (md : Md) (_ : Tg P) : Prop := isO md = true ∧ ∃ I : Nat → List PyData → Prop, I 0 [] ∧
  (∀ i d acc, ds[i]? = some d → I i acc → ∃ Qg, g d (.o 0) (wipeS st vs) Qg ∧ ∀ st2, Qg st2 → ∃ Qc, c st2 Qc ∧ ∀ k, Qc k → match k with
    | true => ∃ Q1 : List PyData → Md → Prop, wi1 st2 Q1 ∧ ∀ ds1 md1, Q1 ds1 md1 → isO md1 = true ∧ Ok2 vs st st2 ∧ ∃ I1 : Nat → List PyData → Prop, I1 0 acc ∧
      (∀ j d1 acc1, ds1[j]? = some d1 → I1 j acc1 → g1 d1 (.o 0) (wipeS st2 vs1) fun st3 => c1 st3 fun k => match k with
        | true => u st3 fun r mr => eAcc kd r mr = true ∧ acc1.length < sizeLine ∧ I1 (j + 1) (acc1 ++ [r])
        | false => I1 (j + 1) acc1) ∧ ∀ acc1, I1 ds1.length acc1 → I (i + 1) acc1
    | false => I (i + 1) acc) ∧
  ∀ acc, I ds.length acc → P acc
def cmp2K (kd : Option Nat) (vs vs1 : List Nat) (g : WG) (c : WT) (wi1 : WI) (g1 : WG) (c1 : WT) (u : WE) (st : AS) (P : List PyData → Prop) (ds : List PyData) (md : Md) : Prop := Cmp2P kd vs vs1 g c wi1 g1 c1 u st P ds md (tg P)
theorem r_comp2 : wComp2 m vs vs1 wi g c wi1 g1 c1 u st Q = wi st (cmp2K (some m) vs vs1 g c wi1 g1 c1 u st fun acc => Q (.list acc) (.o (m + 1))) := rfl
theorem r_cmp2K {P : List PyData → Prop} : cmp2K kd vs vs1 g c wi1 g1 c1 u st P ds md = Cmp2P kd vs vs1 g c wi1 g1 c1 u st P ds md (tg P) := rfl
theorem r_isOo : (isO (.o m) = true) = True := eq_true rfl
theorem cmp2_flt {α β : Type} {f0 : α → PyData} {xs : List α} {P : List PyData → Prop} {t : Tg P} (p : α → Bool) (h : α → List β) (f1 : α → β → PyData) (p1 : α → β → Bool) (r : α → β → PyData) (hl : (xs.flatMap h).length ≤ sizeLine)
    (hs : ∀ x ∈ xs, wipK vs st fun s => g (f0 x) (.o 0) s fun st2 => c st2 fun k => br k (wi1 st2 fun ds1 md1 => isO md1 = true ∧ p x = true ∧ ds1 = (h x).map (f1 x) ∧ Ok2 vs st st2 ∧ ∀ y ∈ h x, wipK vs1 st2 fun s => g1 (f1 x y) (.o 0) s fun st3 => c1 st3 fun k => br k (u st3 fun q mr => eAcc kd q mr = true ∧ p1 x y = true ∧ q = r x y) (p1 x y = false)) (p x = false))
    (hq : P ((xs.filter p).flatMap fun x => ((h x).filter (p1 x)).map (r x))) : Cmp2P kd vs vs1 g c wi1 g1 c1 u st P (xs.map f0) (.o m) t := by
  refine ⟨rfl, fun i acc => acc = ((xs.take i).filter p).flatMap fun x => ((h x).filter (p1 x)).map (r x), by simp, fun i d acc hd hI => ?_, fun acc h => ?_⟩
  · rw [List.getElem?_map] at hd
    cases q : xs[i]? with
    | none => rw [q] at hd; cases hd
    | some x =>
      rw [q] at hd
      cases hd
      have hlt := (List.getElem?_eq_some_iff.mp q).1
      have h1 := wipK_eq _ _ _ (hs x (List.mem_of_getElem? q))
      have ht : xs.take (i + 1) = xs.take i ++ [x] := by rw [List.take_succ, q]; rfl
      have hlen : ∀ j, j < (h x).length → acc.length + j < sizeLine := fun j hj => by
        have e1 : acc.length ≤ ((xs.take i).flatMap h).length := by
          rw [hI]
          have : ∀ l : List α, ((l.filter p).flatMap fun x => ((h x).filter (p1 x)).map (r x)).length ≤ (l.flatMap h).length := fun l => by
            induction l with
            | nil => simp
            | cons a l ih =>
              rw [List.flatMap_cons, List.length_append]
              cases hp : p a with
              | true =>
                rw [List.filter_cons_of_pos hp, List.flatMap_cons, List.length_append, List.length_map]
                have := List.length_filter_le (p1 a) (h a)
                omega
              | false =>
                rw [List.filter_cons_of_neg (by simp [hp])]
                omega
          exact this _
        have e2 : ((xs.take i).flatMap h).length + (h x).length ≤ (xs.flatMap h).length := by
          have : xs.flatMap h = ((xs.take i).flatMap h) ++ (h x ++ (xs.drop (i + 1)).flatMap h) := by
            rw [← List.flatMap_cons, ← List.flatMap_append]
            congr 1
            have := List.drop_eq_getElem_cons hlt
            rw [(List.getElem?_eq_some_iff.mp q).2] at this
            rw [← this, List.take_append_drop]
          rw [this, List.length_append, List.length_append]
          omega
        omega
      have hx1 : ∀ b : Bool, p x = b → ((xs.take (i + 1)).filter p).flatMap (fun x => ((h x).filter (p1 x)).map (r x)) = acc ++ if b then ((h x).filter (p1 x)).map (r x) else [] := fun b hb => by
        rw [ht, List.filter_append, List.flatMap_append, ← hI]
        cases b with
        | true => simp [hb]
        | false => simp [hb]
      refine ⟨_, h1, fun st2 hY => ⟨_, hY, fun k hk => ?_⟩⟩
      cases k with
      | false =>
        show acc = _
        rw [hx1 false hk]
        simp
      | true =>
        refine ⟨_, hk, fun ds1 md1 hz => ?_⟩
        obtain ⟨ho, hp, rfl, hok, hall⟩ := hz
        refine ⟨ho, hok, fun j a => a = acc ++ (((h x).take j).filter (p1 x)).map (r x), by simp, fun j d1 acc1 hd1 hI1 => ?_, fun acc1 hacc => ?_⟩
        · rw [List.getElem?_map] at hd1
          cases q1 : (h x)[j]? with
          | none => rw [q1] at hd1; cases hd1
          | some y =>
            rw [q1] at hd1
            cases hd1
            have hlt1 := (List.getElem?_eq_some_iff.mp q1).1
            have h2 := wipK_eq _ _ _ (hall y (List.mem_of_getElem? q1))
            have ht1 : (h x).take (j + 1) = (h x).take j ++ [y] := by rw [List.take_succ, q1]; rfl
            have hln : acc1.length < sizeLine := by
              rw [hI1, List.length_append, List.length_map]
              have := List.length_filter_le (p1 x) ((h x).take j)
              rw [List.length_take] at this
              have := hlen j hlt1
              omega
            refine cast ?_ h2
            refine congrArg _ (funext fun st3 => congrArg _ (funext fun k => ?_))
            cases k with
            | true =>
              show u st3 _ = u st3 _
              refine congrArg _ (funext fun q => funext fun mr => ?_)
              refine propext (and_congr_right fun _ => ?_)
              show _ ↔ (acc1.length < sizeLine ∧ acc1 ++ [q] = acc ++ (((h x).take (j + 1)).filter (p1 x)).map (r x))
              rw [eq_true hln, true_and, ht1, List.filter_append, List.map_append, ← List.append_assoc, ← hI1]
              cases hp : p1 x y with
              | true => simp [hp]
              | false => simp [hp]
            | false =>
              show (p1 x y = false) = (acc1 = acc ++ (((h x).take (j + 1)).filter (p1 x)).map (r x))
              rw [ht1, List.filter_append, List.map_append, ← List.append_assoc, ← hI1]
              cases hp : p1 x y with
              | true => simp [hp]
              | false => simp [hp]
        · rw [List.length_map, List.take_of_length_le (Nat.le_refl _)] at hacc
          show acc1 = _
          rw [hx1 true hp, hacc]
          simp
  · rw [List.length_map, List.take_of_length_le (Nat.le_refl _)] at h
    rw [h]; exact hq
theorem cmp2_map {α β : Type} {f0 : α → PyData} {xs : List α} {P : List PyData → Prop} {t : Tg P} (h : α → List β) (f1 : α → β → PyData) (r : α → β → PyData) (hl : (xs.flatMap h).length ≤ sizeLine)
    (hs : ∀ x ∈ xs, wipK vs st fun s => g (f0 x) (.o 0) s fun st2 => c st2 fun k => br k (wi1 st2 fun ds1 md1 => isO md1 = true ∧ true = true ∧ ds1 = (h x).map (f1 x) ∧ Ok2 vs st st2 ∧ ∀ y ∈ h x, wipK vs1 st2 fun s => g1 (f1 x y) (.o 0) s fun st3 => c1 st3 fun k => br k (u st3 fun q mr => eAcc kd q mr = true ∧ true = true ∧ q = r x y) (true = false)) (true = false))
    (hq : P (xs.flatMap fun x => (h x).map (r x))) : Cmp2P kd vs vs1 g c wi1 g1 c1 u st P (xs.map f0) (.o m) t := by
  refine cmp2_flt (fun _ => true) h f1 (fun _ _ => true) r hl hs ?_
  rw [List.filter_eq_self.mpr fun _ _ => rfl]
  have : (fun x => ((h x).filter fun _ => true).map (r x)) = fun x => (h x).map (r x) := funext fun x => by rw [List.filter_eq_self.mpr fun _ _ => rfl]
  rw [this]
  exact hq
end
end AL

namespace AL
open PySem PySem.Spec PyProof.Rows L2
theorem cnt_run (x : Str) (c limit : Nat) : ∀ (m cur : Nat) (st : Array Nat × Nat), st.2 ≤ cur → st.1.size + m ≤ limit →
    (forIn (List.range' cur m) st (StrLaws.occBody x ⟨#[c]⟩ x.length limit)).run.1.size = st.1.size + ((List.range' cur m).countP fun i => decide (x.cps.toList[i]? = some c))
  | 0, cur, st, _, _ => rfl
  | m + 1, cur, st, h1, h2 => by
    rw [List.range'_succ, List.forIn_cons, List.countP_cons]
    have key := StrLaws.subAt_one x c cur
    unfold StrLaws.occBody
    by_cases hc : x.cps.toList[cur]? = some c
    · obtain ⟨k1, k2⟩ := key.mpr hc
      rw [if_pos ⟨⟨⟨by omega, h1⟩, k1⟩, k2⟩]
      have := cnt_run x c limit m (cur + 1) (st.1.push cur, cur + 1) (Nat.le_refl _) (by show (st.1.push cur).size + m ≤ limit; rw [Array.size_push]; omega)
      refine this.trans ?_
      show (st.1.push cur).size + _ = _
      rw [Array.size_push, decide_eq_true hc]
      simp only [if_true]
      omega
    · rw [if_neg fun q => hc (key.mp ⟨q.1.2, q.2⟩)]
      have := cnt_run x c limit m (cur + 1) st (by omega) (by omega)
      refine this.trans ?_
      rw [decide_eq_false hc]
      simp
theorem cnt_list (c : Nat) : ∀ (l : List Nat) (k : Nat), ((List.range' k (l.length + 1)).countP fun i => decide (l[i - k]? = some c)) = l.count c
  | [], k => by simp
  | a :: l, k => by
    rw [List.length_cons, List.range'_succ, List.countP_cons, List.count_cons]
    have : ((List.range' (k + 1) (l.length + 1)).countP fun i => decide ((a :: l)[i - k]? = some c)) = ((List.range' (k + 1) (l.length + 1)).countP fun i => decide (l[i - (k + 1)]? = some c)) := by
      refine List.countP_congr fun i hi => ?_
      have := List.mem_range'.mp hi
      obtain ⟨j, _, rfl⟩ := this
      rw [show k + 1 + 1 * j - k = j + 1 by omega, show k + 1 + 1 * j - (k + 1) = j by omega]
      simp
    rw [this, cnt_list c l (k + 1)]
    simp
theorem cnt_sign (l : List Nat) (c : Nat) : Txt.count ⟨l.toArray⟩ ⟨#[c]⟩ = ((l.count c : Nat) : Int) := by
  unfold Txt.count
  congr 1
  have h := cnt_run ⟨l.toArray⟩ c ((⟨l.toArray⟩ : Str).length + 1) ((⟨l.toArray⟩ : Str).length + 1 - 0) 0 (#[], 0) (Nat.le_refl _) (by simp)
  rw [StrLaws.occ_eq, Array.length_toList, h]
  have e : (⟨l.toArray⟩ : Str).length = l.length := by show l.toArray.size = _; simp
  rw [e]
  have := cnt_list c l 0
  simpa using this
end AL

namespace AL
open PySem PySem.Spec PyProof.Rows L2
def wNever : WS := fun _ _ => False
theorem ts_never {X : Cx} {s : Stmt} : TrS X s wNever := ⟨fun _ _ _ => False, ⟨fun _ _ _ _ _ _ h => h.elim⟩, fun _ _ _ _ _ _ _ _ _ _ _ h _ => h.elim⟩
section
variable {v : WE}
theorem appPopS_ {D : AEnds} {st : AS} {i p : Nat} {z : Int} {ds : List PyData} {d : PyData} (hsy : slot st i = .val (.list ds) (.o 1)) (hj : ∀ Q : QE, Q (.int z) (.o 0) → v st Q) (hp : ixN ds.length z = some p) (hd : ds[p]? = some d) (hl : ds.length ≤ sizeLine)
    (hk : putK st i (.val (.list (ds.eraseIdx p ++ [d])) (.o 1)) D.nx) : wAppPop i i v D st := by
  unfold wAppPop
  rw [hsy]
  show wPopAt i v (appS D i) st
  unfold wPopAt
  rw [hsy]
  refine hj _ ⟨hl, ?_⟩
  rw [hp]
  simp only [hd]
  unfold appS
  rw [putK_eq] at hk
  rw [slot_put_same _ _ _ hk.1]
  have hlt := (List.getElem?_eq_some_iff.mp hd).1
  refine ⟨by rw [List.length_eraseIdx, if_pos hlt]; omega, ?_⟩
  rw [put_put]
  exact hk.2
end
theorem r_never {D : AEnds} {st : AS} : wNever D st = False := rfl
end AL

namespace AL
open PySem PySem.Spec PyProof.Rows L2
theorem cmp_sel {α : Type} {f0 : α → PyData} {xs : List α} {c : WT} {u : WE} {st : AS} {md : Md} {vs : List Nat} {kd : Option Nat} {g : WG} {P : List PyData → Prop} {t : Tg P} (f : α → PyData) (hl : xs.length ≤ sizeLine)
    (hs : ∀ x ∈ xs, ∀ (K : PyData → Prop) (N : Prop), K (f x) → N → wipK vs st fun s => g (f0 x) (itm md) s fun st2 => c st2 fun k => br k (u st2 fun r mr => eAcc kd r mr = true ∧ K r) N) (hq : ∀ ys : List α, ys.Sublist xs → P (ys.map f)) : CmpP kd vs g c u st P (xs.map f0) md t := by
  refine ⟨fun i acc => ∃ ys, ys.Sublist (xs.take i) ∧ acc = ys.map f, ⟨[], by simp, rfl⟩, fun i d acc h hI => ?_, fun acc h => ?_⟩
  · rw [List.getElem?_map] at h
    cases q : xs[i]? with
    | none => rw [q] at h; cases h
    | some x =>
      rw [q] at h
      cases h
      obtain ⟨ys, hy, rfl⟩ := hI
      have ht : xs.take (i + 1) = xs.take i ++ [x] := by rw [List.take_succ, q]; rfl
      have hi := (List.getElem?_eq_some_iff.mp q).1
      have hlen : (ys.map f).length < sizeLine := by
        rw [List.length_map]
        have := hy.length_le
        rw [List.length_take] at this
        omega
      have h1 := wipK_eq _ _ _ (hs x (List.mem_of_getElem? q) (fun r => (ys.map f).length < sizeLine ∧ ∃ zs, zs.Sublist (xs.take (i + 1)) ∧ ys.map f ++ [r] = zs.map f) (∃ zs, zs.Sublist (xs.take (i + 1)) ∧ ys.map f = zs.map f)
        ⟨hlen, ys ++ [x], by rw [ht]; exact hy.append (List.Sublist.refl _), by rw [List.map_append]; rfl⟩ ⟨ys, by rw [ht]; exact hy.trans (List.sublist_append_left ..), rfl⟩)
      refine cast ?_ h1
      exact congrArg _ (funext fun st2 => congrArg _ (funext fun k => by cases k <;> rfl))
  · rw [List.length_map, List.take_of_length_le (Nat.le_refl _)] at h
    obtain ⟨ys, hy, rfl⟩ := h
    exact hq ys hy
theorem in_intL (xs : List Int) (z : Int) : dInOk (.int z) (.list (xs.map .int)) = true ∧ dIn (.int z) (.list (xs.map .int)) = decide (z ∈ xs) := by
  refine ⟨dInOkL Shp.int fun e he => ?_, ?_⟩
  · obtain ⟨x, _, rfl⟩ := List.mem_map.mp he
    exact Shp.int
  · show ((xs.map PyData.int).any fun y => dEq y (.int z)) = _
    rw [List.any_map, Bool.eq_iff_iff, List.any_eq_true, decide_eq_true_eq]
    constructor
    · rintro ⟨x, hx, h⟩
      obtain rfl : x = z := of_decide_eq_true h
      exact hx
    · exact fun h => ⟨z, h, decide_eq_true rfl⟩
theorem in_intT (xs : List Int) (z : Int) : dInOk (.int z) (.tuple (xs.map .int)) = true ∧ dIn (.int z) (.tuple (xs.map .int)) = decide (z ∈ xs) := by
  refine ⟨dInOkT Shp.int fun e he => ?_, (in_intL xs z).2⟩
  obtain ⟨x, _, rfl⟩ := List.mem_map.mp he
  exact Shp.int
theorem rg_get? {n k y : Nat} (h : (List.range n)[k]? = some y) : y = k ∧ k < n := by
  have h1 := getElem?_lt h
  rw [List.length_range] at h1
  rw [List.getElem?_range h1] at h
  exact ⟨(Option.some.inj h).symm, h1⟩
theorem cnt_at : ∀ {cs : List Nat}, cs.Pairwise (· < ·) → ∀ {p c : Nat}, cs[cs.countP fun x => decide (x < p)]? = some c → p ≤ c ∧ (cs.countP fun x => decide (x ≤ p)) = (cs.countP fun x => decide (x < p)) + if c = p then 1 else 0
  | [], _, p, c, h => by simp at h
  | a :: r, hs, p, c, h => by
    obtain ⟨h1, h2⟩ := List.pairwise_cons.mp hs
    rw [List.countP_cons] at h
    rw [List.countP_cons, List.countP_cons]
    by_cases ha : a < p
    · rw [decide_eq_true ha] at h ⊢
      rw [decide_eq_true (show a ≤ p by omega)]
      simp only [if_true] at h ⊢
      have := cnt_at h2 (p := p) (c := c) (by simpa using h)
      omega
    · have z : (r.countP fun x => decide (x < p)) = 0 := List.countP_eq_zero.mpr fun x hx => by have := h1 x hx; simp; omega
      have z2 : (r.countP fun x => decide (x ≤ p)) = 0 := List.countP_eq_zero.mpr fun x hx => by have := h1 x hx; simp; omega
      rw [z, decide_eq_false ha] at h
      rw [z, z2, decide_eq_false ha]
      simp at h
      subst h
      by_cases e : a = p
      · subst e; simp
      · simp [e]; omega
end AL

namespace AL
open PySem PySem.Spec PyProof.Rows L2
section
variable {K : PySem.W.Frag} {B : Option Bx} {F0 H0 Fe He F H : Hp} {σ : L2.St} {st : AS} {i m : Nat} {ds : List PyData}
theorem SR.writeD (R : SR K B F0 H0 Fe He σ st) (n : NoB st) (x : Ext K B Fe He F H) {hd : PyData} (hs : slot st i = .val (.dict [(hd, .list ds)]) (.o (m + 1))) : ∃ a o xs fs, σ[i]? = some (some (.ref a)) ∧ H a = some o ∧ DictO o hd xs ∧ Fp3 (Own K F H m) xs ds fs ∧ a ∉ fs ∧ fs.Nodup ∧ (∀ b ∈ a :: fs, ∃ o, He b = some o) ∧ nb B a ∧ (∀ b ∈ fs, nb B b) ∧
    ∀ H' hd' ds' fs' m', (∀ b o, b ∉ a :: fs → H b = some o → H' b = some o) → (∃ o' xs', H' a = some o' ∧ DictO o' hd' xs' ∧ Fp3 (Own K F H' m') xs' ds' fs') → fs'.Nodup → (∀ b ∈ fs', b ∈ fs ∨ (He b = none ∧ nb B b)) →
      SR K B F0 H0 F H' σ (put st i (.val (.dict [(hd', .list ds')]) (.o (m' + 1)))) := by
  obtain ⟨fpf, h1, h2, h3, h4⟩ := R.own
  have lv := fpf_live h1 h2
  have hi := slot_lt hs
  obtain ⟨v, q1, t⟩ := h1 i _ _ hs
  have live0 : ∀ b ∈ fpf i, ∃ o, He b = some o := fun b hb => by
    obtain ⟨⟨xs, hx⟩, _⟩ := lv i b hb
    exact ⟨_, hx⟩
  obtain ⟨nd, nbf, ks0, ds0, e0', a, o0, xs, fs, e1, e2, e2', e3, e4, e5⟩ := t.ext x
  cases e0'
  subst e1
  rw [e5] at nd nbf live0
  have nda := List.nodup_cons.mp nd
  refine ⟨a, o0, xs, fs, q1, e2, e2', e4, nda.1, nda.2, live0, nbf a (List.mem_cons_self ..), fun b hb => nbf b (List.mem_cons_of_mem _ hb), fun H' hd' ds' fs' m' hk hx hdd hf => ?_⟩
  have others : ∀ j, j ≠ i → ∀ b ∈ fpf j, b ∉ a :: fs := fun j hj b hb hm => hj (h3 j i b hb (by rw [e5]; exact hm))
  have nFs : ∀ b ∈ a :: fs, F b = none := fun b hb => by
    rcases List.mem_cons.mp hb with q | q
    · rw [q]; exact e3
    · exact (fp3_live (fun v d f => own_live m v d f) e4 b q).2
  have new' : ∀ b ∈ fs', ∀ j, b ∈ fpf j → j = i := fun b hb j hj => by
    rcases hf b hb with q | q
    · exact h3 j i b hj (by rw [e5]; exact List.mem_cons_of_mem _ q)
    · obtain ⟨⟨ys, hy⟩, _⟩ := lv j b hj
      rw [q.1] at hy; cases hy
  obtain ⟨o', xs', hx1, hx1', hx2⟩ := hx
  have nba : ∀ b ∈ a :: fs, nb B b := nbf
  have e0 : Ext K B F0 H0 F H := R.ext.trans x
  have exN : Ext K B F0 H0 F H' := by
    refine ⟨fun b o nbb hb => ?_, e0.ff, e0.nw, ⟨fun b o hb => hk b o (fun hm => ?_) (e0.wf.fh _ _ hb), e0.wf.bn, fun y hy => ?_, e0.wf.bd⟩⟩
    · refine hk b o (fun hm => ?_) (e0.hh b o nbb hb)
      rw [h4 i b (by rw [e5]; exact hm)] at hb; cases hb
    · rw [nFs b hm] at hb; cases hb
    · obtain ⟨k, k0, hk'⟩ := e0.wf.bk y hy
      exact ⟨k, k0, hk _ _ (fun hm => nba _ hm y hy rfl) hk'⟩
  refine ⟨exN, by rw [put_len]; exact R.len, ⟨ovr fpf i (a :: fs'), fun j d md q => ?_, fun j q => ?_, fun j k b hb hc => ?_, fun j b hb => ?_⟩, fun j q => ?_, fun j ns q => ?_⟩
  · by_cases z : j = i
    · subst z
      rw [slot_put_same _ _ _ hi] at q
      cases q
      refine ⟨_, q1, ?_⟩
      rw [ovr_eq rfl]
      refine ⟨List.nodup_cons.mpr ⟨fun hm => ?_, hdd⟩, fun b hb => ?_, _, _, rfl, a, o', xs', fs', rfl, hx1, hx1', e3, hx2, rfl⟩
      · rcases hf a hm with q | q
        · exact nda.1 q
        · obtain ⟨o, ho⟩ := live0 a (List.mem_cons_self ..)
          rw [q.1] at ho; cases ho
      · rcases List.mem_cons.mp hb with q | q
        · rw [q]; exact nba a (List.mem_cons_self ..)
        · rcases hf b q with q | q
          · exact nba b (List.mem_cons_of_mem _ q)
          · exact q.2
    · rw [slot_put_ne _ _ _ _ z] at q
      obtain ⟨u, p1, p2⟩ := h1 j d md q
      refine ⟨u, p1, ?_⟩
      rw [ovr_ne z]
      have p3 := p2.ext x
      refine ⟨p3.1, p3.2.1, ?_⟩
      cases md with
      | b => exact absurd q (n j d)
      | o mm => exact own_mono (Same.refl _) mm _ _ _ p3.2.2 (fun b hb o ho => hk b o (others j z b hb) ho) fun _ _ h => h
  · by_cases z : j = i
    · subst z
      rw [slot_put_same _ _ _ hi] at q
      exact absurd rfl (q _ _)
    · rw [ovr_ne z]
      exact h2 j fun d' md' z' => q d' md' (by rw [slot_put_ne _ _ _ _ z]; exact z')
  · have mem_i : ∀ b, b ∈ a :: fs' → ∀ j, b ∈ fpf j → j = i := fun b hb j hj => by
      rcases List.mem_cons.mp hb with q | q
      · exact h3 j i b hj (by rw [e5, q]; exact List.mem_cons_self ..)
      · exact new' b q j hj
    by_cases z : j = i
    · rw [ovr_eq z] at hb
      by_cases y : k = i
      · rw [z, y]
      · rw [ovr_ne y] at hc
        exact absurd (mem_i b hb k hc) y
    · rw [ovr_ne z] at hb
      by_cases y : k = i
      · rw [ovr_eq y] at hc
        exact absurd (mem_i b hc j hb) z
      · rw [ovr_ne y] at hc
        exact h3 j k b hb hc
  · by_cases z : j = i
    · rw [ovr_eq z] at hb
      rcases List.mem_cons.mp hb with q | q
      · exact h4 i b (by rw [e5, q]; exact List.mem_cons_self ..)
      · rcases hf b q with q | q
        · exact h4 i b (by rw [e5]; exact List.mem_cons_of_mem _ q)
        · exact R.ext.old q.2 q.1
    · rw [ovr_ne z] at hb
      exact h4 j b hb
  · by_cases z : j = i
    · subst z
      rw [slot_put_same _ _ _ hi] at q; cases q
    · rw [slot_put_ne _ _ _ _ z] at q
      exact R.box j q
  · by_cases z : j = i
    · subst z
      rw [slot_put_same _ _ _ hi] at q; cases q
    · rw [slot_put_ne _ _ _ _ z] at q
      obtain ⟨y, p1, p2⟩ := R.scr j ns q
      exact ⟨y, p1, x.ff.seq p2⟩
end
def dct (kvs : List (Key × PyData)) : PyData := .dict [(.list (kvs.map fun p => kD p.1), .list (kvs.map (·.2)))]
theorem kD_inj {a b : Key} (h : kD a = kD b) : a = b := by cases a <;> cases b <;> simp_all [kD]
theorem kD_map : ∀ {xs ys : List Key}, xs.map kD = ys.map kD → xs = ys
  | [], [], _ => rfl
  | [], _ :: _, h => by simp at h
  | _ :: _, [], h => by simp at h
  | a :: r, b :: s, h => by
    rw [List.map_cons, List.map_cons] at h
    injection h with h1 h2
    rw [kD_inj h1, kD_map h2]
theorem fs_eq {α β : Type} : ∀ {xs ys : List (α × β)}, xs.map (·.1) = ys.map (·.1) → xs.map (·.2) = ys.map (·.2) → xs = ys
  | [], [], _, _ => rfl
  | [], _ :: _, h, _ => by simp at h
  | _ :: _, [], h, _ => by simp at h
  | (a, b) :: r, (c, d) :: s, h, g => by
    simp only [List.map_cons, List.cons.injEq] at h g
    rw [fs_eq h.2 g.2, h.1, g.1]
theorem dct_inj {xs ys : List (Key × PyData)} (h : dct xs = dct ys) : xs = ys := by
  unfold dct at h
  simp only [PyData.dict.injEq, List.cons.injEq, Prod.mk.injEq, PyData.list.injEq, and_true] at h
  refine fs_eq (kD_map ?_) h.2
  rw [List.map_map, List.map_map]
  exact h.1
def lookD (kvs : List (Key × PyData)) (k : Key) : Option PyData := (kvs.find? fun p => decide (p.1 = k)).map (·.2)
def putD (kvs : List (Key × PyData)) (k : Key) (d : PyData) : List (Key × PyData) := if (kvs.any fun p => decide (p.1 = k)) = true then kvs.map (fun p => if p.1 = k then (p.1, d) else p) else kvs ++ [(k, d)]
theorem dk_of' {o : HO} {kvs : List (Key × PyData)} {xs : List V} (h : DictO o (.list (kvs.map fun p => kD p.1)) xs) : ∃ kv : List (Key × V), o = .dK kv ∧ kv.map (·.1) = kvs.map (·.1) ∧ xs = kv.map (·.2) ∧ (kvs.map (·.1)).Nodup := by
  rcases h with ⟨kv, h1, h2, h3, h4⟩ | ⟨kv, _, h2, _⟩
  · have e : kvs.map (·.1) = kv.map (·.1) := by
      refine kD_map ?_
      rw [List.map_map, List.map_map]
      exact PyData.list.inj h2
    exact ⟨kv, h1, e.symm, h3, by rw [e]; exact h4⟩
  · cases h2
theorem look_rel {R : V → PyData → Prop} (k : Key) : ∀ {kv : List (Key × V)} {kvs : List (Key × PyData)}, kv.map (·.1) = kvs.map (·.1) → (∀ (j : Nat) (v : V) (d : PyData), (kv.map (·.2))[j]? = some v → (kvs.map (·.2))[j]? = some d → R v d) →
    (lookD kvs k = none ∧ valV kv k = none) ∨ ∃ (d : PyData) (v : V) (j : Nat), lookD kvs k = some d ∧ valV kv k = some v ∧ (kvs.map (·.2))[j]? = some d ∧ (kv.map (·.2))[j]? = some v ∧ R v d
  | [], [], _, _ => .inl ⟨rfl, rfl⟩
  | [], _ :: _, h, _ => by simp at h
  | _ :: _, [], h, _ => by simp at h
  | (a, v) :: r, (c, d) :: s, h, g => by
    simp only [List.map_cons, List.cons.injEq] at h
    obtain ⟨h1, h2⟩ := h
    have h1 : a = c := h1
    subst h1
    by_cases e : a = k
    · exact .inr ⟨d, v, 0, by simp [lookD, List.find?_cons, e], by simp [valV, List.find?_cons, e], rfl, rfl, g 0 v d rfl rfl⟩
    · rcases look_rel (R := R) k h2 (fun j v d (e1 : (r.map (·.2))[j]? = some v) (e2 : (s.map (·.2))[j]? = some d) => g (j + 1) v d (by simpa using e1) (by simpa using e2)) with ⟨q1, q2⟩ | ⟨d', v', j, q1, q2, q3, q4, q5⟩
      · exact .inl ⟨by simpa [lookD, List.find?_cons, e] using q1, by simpa [valV, List.find?_cons, e] using q2⟩
      · exact .inr ⟨d', v', j + 1, by simpa [lookD, List.find?_cons, e] using q1, by simpa [valV, List.find?_cons, e] using q2, by simpa using q3, by simpa using q4, q5⟩
theorem rpAll_at {K : PySem.W.Frag} {H : Hp} {vs : List V} {ds : List PyData} (h : RpAll K H vs ds) : ∀ (j : Nat) (v : V) (d : PyData), vs[j]? = some v → ds[j]? = some d → Rp K H v d := fun j v d e1 e2 => by
  obtain ⟨v', e3, h3⟩ := rpAll_get h e2
  rw [e1] at e3
  cases e3
  exact h3
theorem put_set {β : Type} (k : Key) (b : β) : ∀ {kv : List (Key × β)}, (kv.map (·.1)).Nodup → ((kv.any fun p => decide (p.1 = k)) = true) → ∃ j, j < kv.length ∧ (kv.map (·.1))[j]? = some k ∧ kv.map (fun p => if p.1 = k then (p.1, b) else p) = kv.set j (k, b)
  | [], _, h => by simp at h
  | (a, c) :: r, hn, h => by
    obtain ⟨n1, n2⟩ := List.nodup_cons.mp hn
    by_cases e : a = k
    · subst e
      refine ⟨0, by simp, rfl, ?_⟩
      rw [List.map_cons, if_pos rfl]
      show (a, b) :: _ = (a, b) :: r
      congr 1
      conv => rhs; rw [← List.map_id r]
      refine List.map_congr_left fun p hp => ?_
      rw [if_neg]
      · rfl
      · intro q
        exact n1 (List.mem_map.mpr ⟨p, hp, q⟩)
    · have h' : (r.any fun p => decide (p.1 = k)) = true := by simpa [e] using h
      obtain ⟨j, j1, j2, j3⟩ := put_set k b n2 h'
      refine ⟨j + 1, by simpa using j1, by simpa using j2, ?_⟩
      rw [List.map_cons, if_neg e, j3]
      rfl
theorem any_keys {β γ : Type} (k : Key) {xs : List (Key × β)} {ys : List (Key × γ)} (h : xs.map (·.1) = ys.map (·.1)) : (xs.any fun p => decide (p.1 = k)) = ys.any fun p => decide (p.1 = k) := by
  have a : ∀ {δ : Type} (l : List (Key × δ)), (l.any fun p => decide (p.1 = k)) = (l.map (·.1)).any fun x => decide (x = k) := fun l => by rw [List.any_map]; rfl
  rw [a, a, h]
theorem put_rel {R : V → PyData → List Addr → Prop} {kv : List (Key × V)} {kvs : List (Key × PyData)} {fs g : List Addr} {k : Key} {v : V} {d : PyData} (he : kv.map (·.1) = kvs.map (·.1)) (hn : (kvs.map (·.1)).Nodup) (h : Fp3 R (kv.map (·.2)) (kvs.map (·.2)) fs) (r : R v d g) :
    (L2.putK kv k v).map (·.1) = (putD kvs k d).map (·.1) ∧ ((putD kvs k d).map (·.1)).Nodup ∧ ∃ fs', Fp3 R ((L2.putK kv k v).map (·.2)) ((putD kvs k d).map (·.2)) fs' ∧ (∀ b ∈ fs', b ∈ fs ∨ b ∈ g) ∧ (fs.Nodup → g.Nodup → (∀ b ∈ g, b ∉ fs) → fs'.Nodup) := by
  unfold L2.putK putD
  rw [any_keys k he]
  by_cases c : (kvs.any fun p => decide (p.1 = k)) = true
  · rw [if_pos c, if_pos c]
    obtain ⟨j, j1, j2, j3⟩ := put_set k d hn c
    obtain ⟨j', i1, i2, i3⟩ := put_set k v (kv := kv) (by rw [he]; exact hn) (by rw [any_keys k he]; exact c)
    rw [he] at i2
    have hjj : j' = j := by
      have hl : j' < (kvs.map (·.1)).length := (List.getElem?_eq_some_iff.mp i2).1
      exact (List.getElem?_inj hl hn).mp (i2.trans j2.symm)
    subst hjj
    rw [i3, j3, List.map_set, List.map_set, List.map_set, List.map_set]
    obtain ⟨fs', s1, s2, s3⟩ := fp3_set (p := j') h r (by rw [List.length_map]; exact j1)
    have e0 : (kvs.map (·.1)).set j' k = kvs.map (·.1) := by
      obtain ⟨hl, hg⟩ := List.getElem?_eq_some_iff.mp j2
      rw [← hg]
      exact List.set_getElem_self hl
    refine ⟨by rw [he], by rw [e0]; exact hn, fs', s1, s2, s3⟩
  · rw [if_neg c, if_neg c]
    rw [List.map_append, List.map_append, List.map_append, List.map_append, he]
    have hk : k ∉ kvs.map (·.1) := fun hm => by
      obtain ⟨p, hp, e⟩ := List.mem_map.mp hm
      exact c (List.any_eq_true.mpr ⟨p, hp, decide_eq_true e⟩)
    refine ⟨rfl, List.nodup_append.mpr ⟨hn, by simp, fun a ha b hb e => ?_⟩, fs ++ (g ++ []), h.app (.cons r .nil), fun b hb => by simpa using hb, fun n1 n2 dj => ?_⟩
    · obtain rfl : b = k := by simpa using hb
      exact hk (e ▸ ha)
    · rw [List.append_nil]
      exact fp3_nodup_app n1 n2 fun x hx hy => dj x hy hx
end AL

namespace AL
open PySem PySem.Spec PyProof.Rows L2
section
variable {X : Cx}
theorem ps_setDc {i : Nat} {y : Str} {py : Pos} {kx vx tg iter : Expr} {ifs : List Expr} {scope : Scope} {own : List (Str × Nat)} {pos spos : Pos} {wi : TI} {g : TG} {tt : TT} {tk tv : TE} (hc : X.calm = true) (hN : X.N.Nodup) (hy : X.N[i]? = some y) (hyl : X.env.scope.names.lookup y = some .local)
    (hsw : swapsWith (.DictComp kx vx [⟨tg, iter, ifs, 0⟩] scope pos) (some (.Name y py)) spos.line X.env = pure true) (hi : PI X tg iter wi) (ok : BlkOk X.N X.env.scope scope own)
    (hg : ∀ (s : Shared) (H : Hp) (C : Addr) (cl : List (Str × Addr)) (fp : List Addr), PG (X.blk s H scope (compEnvC scope cl C X.env) fp) tg g) (ht : ∀ (s : Shared) (H : Hp) (C : Addr) (cl : List (Str × Addr)) (fp : List Addr), PTs (X.blk s H scope (compEnvC scope cl C X.env) fp) ifs tt)
    (hk : ∀ (s : Shared) (H : Hp) (C : Addr) (cl : List (Str × Addr)) (fp : List Addr), PE (X.blk s H scope (compEnvC scope cl C X.env) fp) kx tk)
    (he : ∀ (s : Shared) (H : Hp) (C : Addr) (cl : List (Str × Addr)) (fp : List Addr), PE (X.blk s H scope (compEnvC scope cl C X.env) fp) vx tv) (hs : ∀ x, foldedSetIterable iter X.env x = pure x := by intro _; rfl) :
    PS X (.Assign [.Name y py] (.DictComp kx vx [⟨tg, iter, ifs, 0⟩] scope pos) spos) (tAsg (tDc wi g tt tk tv (own.map (·.2))) (gName i)) := by
  refine ⟨fun pins s σ H D I h => ?_⟩
  rw [exec_Assign_Name_used _ _ _ _ hsw]
  refine wpAny_bind (wpAny_standAt (wpAny_bind ?_))
  show wpAny _ X.A (do let _ ← comprehension (.DictComp kx vx [⟨tg, iter, ifs, 0⟩] scope pos) scope X.env (firstIterPos [⟨tg, iter, ifs, 0⟩] pos) newDict false (eval iter X.env) (some (assign (.Name y py) X.env))) _ _ s
  have h : tDc wi g tt tk tv (own.map (·.2)) σ H (fun x H1 => gName i x σ H1 D.nx) := h
  refine wpAny_bind (thn (dc_core (Qf := fun _ s' => SP X pins D .next s') hc hN I hi ok hg ht hk he hs h fun L C s' m H' I' q hn f => ?_) fun _ s' hq => wpAny_pure (wpAny_pure hq))
  show wpAny _ _ (assign (.Name y py) X.env (.ref L)) _ _ _
  refine wpAny_assign_Name (store_ok2 (v := V.ref L) I' hN hy (.inl hyl) rfl (fun s2 I2 ⟨a, sb, ha⟩ => ?_) (.inr hyl))
  obtain ⟨f0, f1, f2, f3, f4, f5⟩ := f
  have haC : C ≠ a := by
    rcases ha with z | z
    · rw [z]; exact f1
    · exact fun e => f4 y a z e.symm
  refine ⟨m, hn.sameBut sb haC, fun h3 sb3 => ?_⟩
  exact ⟨_, H', I2.turned (t' := s2.toks) (fun b o hb e => (sb3.2 b hb).trans e) f0 f1 f3 f4 f5, q⟩
end
section
variable {X : Cx} {pos p2 : Pos} {e e1 e2 : Expr} {u v : WE}
def wDnew (m : Nat) : WE := fun _ Q => Q (dct []) (.o (m + 1))
theorem te_dnew (m : Nat) : TrE X (.Dict [] [] pos) (wDnew m) := ⟨_, pe_dnewK, fun B F0 H0 F H σ st Q Q' R hw k p np => by
  have nB := R.wf.new np
  exact k (.ref p) F (upd H p (.dK [])) (dct []) (.o (m + 1)) [p] (Ext.laid R.wf np) ⟨by simp, fun a ha => by rw [List.mem_singleton.mp ha]; exact nB, _, _, rfl, p, .dK [], [], [], rfl, upd_same, .inl ⟨[], rfl, rfl, rfl, List.nodup_nil⟩, R.wf.fh.free np, .nil, rfl⟩
    (fun a ha => by rw [List.mem_singleton.mp ha]; exact np) hw⟩
theorem key_v {K : PySem.W.Frag} {H : Hp} {y : V} {k : Key} (h : Rp K H y (kD k)) : y = kV k := by
  cases k <;> (cases h; rfl)
def DatP (kvs : List (Key × PyData)) (k : Key) (m : Md) (Q : QE) (_ : Tg Q) : Prop := ∃ d, lookD kvs k = some d ∧ Q d (elm m d)
def aDat : Op2 := fun d1 m1 d2 _ Q => ∃ kvs k, d1 = dct kvs ∧ d2 = kD k ∧ DatP kvs k m1 Q (tg Q)
theorem opa_dat : OpA X (fun x y H Q => ∃ a v, x = .ref a ∧ DGet H a y (some v) ∧ Q v H) aDat := by
  intro B Fs Hs F H x y d1 d2 m1 m2 f1 f2 Q Q' ex r1 r2 n1 n2 dj hw k
  obtain ⟨kvs, kk, rfl, rfl, d, hl, hq⟩ := hw
  obtain rfl := key_v (r2.read ex.wf)
  have gt : ∀ (a : Addr) (kv : List (Key × V)) (w : V), H a = some (.dK kv) → valV kv kk = some w → DGet H a (kV kk) (some w) := fun a kv w h1 h2 => by rw [← h2]; exact DGet.k h1
  cases m1 with
  | b =>
    have h : Rp X.K (era B H) x (dct kvs) := r1.2.2.1
    unfold dct at h
    cases h with
    | dct h1 h2 h3 =>
      obtain ⟨kv, rfl, e1, rfl, _⟩ := dk_of' h2
      rcases look_rel kk e1 (rpAll_at h3) with ⟨q, _⟩ | ⟨d', w, j, q1, q2, _, _, q5⟩
      · rw [hl] at q; cases q
      · rw [hl] at q1
        cases q1
        exact ⟨_, w, rfl, gt _ _ _ (era_sub _ _ h1) q2, k w F H d _ [] ex (.scm q5) (fun _ h => by simp at h) hq⟩
  | o m =>
    cases m with
    | zero =>
      have h : Rp X.K F x (dct kvs) := r1.2.2.1
      unfold dct at h
      cases h with
      | dct h1 h2 h3 =>
        obtain ⟨kv, rfl, e1, rfl, _⟩ := dk_of' h2
        rcases look_rel kk e1 (rpAll_at h3) with ⟨q, _⟩ | ⟨d', w, j, q1, q2, _, _, q5⟩
        · rw [hl] at q; cases q
        · rw [hl] at q1
          cases q1
          exact ⟨_, w, rfl, gt _ _ _ (ex.wf.fh _ _ h1) q2, k w F H d _ [] ex (.of q5) (fun _ h => by simp at h) hq⟩
    | succ m =>
      obtain ⟨ks, ds, e0, a, o, xs, fs, g1, g2, g3, g4, g5, g6⟩ := r1.2.2
      cases e0
      obtain ⟨kv, rfl, e1, rfl, _⟩ := dk_of' g3
      subst g1
      rcases look_rel (R := fun v d => ∃ f, Own X.K F H m v d f ∧ f.Sublist fs) kk e1 (fun j v d e2 e3 => by
        obtain ⟨v', f, e4, e5, e6⟩ := fp3_get g5 e3
        rw [e2] at e4
        cases e4
        exact ⟨f, e5, e6⟩) with ⟨q, _⟩ | ⟨d', w, j, q1, q2, _, _, f, q5, q6⟩
      · rw [hl] at q; cases q
      · rw [hl] at q1
        cases q1
        have hf : ∀ b ∈ f, b ∈ f1 := fun b hb => by rw [g6]; exact List.mem_cons_of_mem _ (q6.subset hb)
        have nd : f.Nodup := by
          have := r1.1
          rw [g6] at this
          exact q6.nodup (List.nodup_cons.mp this).2
        exact ⟨a, w, rfl, gt _ _ _ g2 q2, k w F H d _ f ex ⟨nd, fun b hb => r1.2.1 b (hf b hb), q5⟩ (fun b hb => n1 b (hf b hb)) hq⟩
theorem te_dat (hu : X.A.units + 1 < cLine) (h1 : TrE X e1 u) (h2 : TrE X e2 v) (hs : NoSl e2 := by exact fun _ _ => rfl) : TrE X (.Subscript e1 e2 pos) (w2 aDat u v) :=
  te_2 (fun p q => pe_dget hu p q hs) opa_dat h1 h2
def aDin : Op2 := fun d1 _ d2 _ Q => ∃ kvs k, d1 = kD k ∧ d2 = dct kvs ∧ Q (.bool (lookD kvs k).isSome) (.o 0)
def aDnin : Op2 := fun d1 _ d2 _ Q => ∃ kvs k, d1 = kD k ∧ d2 = dct kvs ∧ Q (.bool (!(lookD kvs k).isSome)) (.o 0)
theorem din_at {K : PySem.W.Frag} {H : Hp} {y : V} {kvs : List (Key × PyData)} (k : Key) (h : Rp K H y (dct kvs)) : ∃ a o, y = .ref a ∧ DGet H a (kV k) o ∧ o.isSome = (lookD kvs k).isSome := by
  unfold dct at h
  cases h with
  | dct h1 h2 h3 =>
    obtain ⟨kv, rfl, e1, rfl, _⟩ := dk_of' h2
    refine ⟨_, valV kv k, rfl, DGet.k h1, ?_⟩
    rcases look_rel k e1 (rpAll_at h3) with ⟨q, q'⟩ | ⟨d', w, j, q1, q2, _⟩
    · rw [q, q']; rfl
    · rw [q1, q2]; rfl
theorem opa_din : OpA X (fun x y H Q => ∃ a o, y = .ref a ∧ DGet H a x o ∧ Q (.bl o.isSome) H) aDin := opa_read fun H x y d1 d2 m1 m2 Q Q' h1 h2 hw k => by
  obtain ⟨kvs, kk, rfl, rfl, hq⟩ := hw
  obtain rfl := key_v h1
  obtain ⟨a, o, e, g, ho⟩ := din_at kk h2
  exact ⟨a, o, e, g, k _ _ (fun _ => .bl _) (by rw [ho]; exact hq)⟩
theorem opa_dnin : OpA X (fun x y H Q => ∃ a o, y = .ref a ∧ DGet H a x o ∧ Q (.bl (!o.isSome)) H) aDnin := opa_read fun H x y d1 d2 m1 m2 Q Q' h1 h2 hw k => by
  obtain ⟨kvs, kk, rfl, rfl, hq⟩ := hw
  obtain rfl := key_v h1
  obtain ⟨a, o, e, g, ho⟩ := din_at kk h2
  exact ⟨a, o, e, g, k _ _ (fun _ => .bl _) (by rw [ho]; exact hq)⟩
theorem te_din (hu : X.A.units + 1 < cLine) (h1 : TrE X e1 u) (h2 : TrE X e2 v) (hm : behindInMarks .In e2 = false := by rfl) : TrE X (.Compare e1 [.In] [e2] pos) (w2 aDin u v) := te_2 (fun p q => pe_cmp (pc_din hu p q) hm) opa_din h1 h2
theorem te_dnin (hu : X.A.units + 1 < cLine) (h1 : TrE X e1 u) (h2 : TrE X e2 v) (hm : behindInMarks .NotIn e2 = false := by rfl) : TrE X (.Compare e1 [.NotIn] [e2] pos) (w2 aDnin u v) := te_2 (fun p q => pe_cmp (pc_dnotin hu p q) hm) opa_dnin h1 h2
theorem tt_2 {r : R2} {a : Op2} {op : CmpOp} (hpt : ∀ {t1 t2 : TE}, PE X e1 t1 → PE X e2 t2 → PC X op e1 e2 (tOp r t1 t2)) (ha : OpA X r a) (h1 : TrE X e1 u) (h2 : TrE X e2 v) (hm : behindInMarks op e2 = false) : TrT X (.Compare e1 [op] [e2] pos) (wTst (w2 a u v)) := by
  obtain ⟨t1, p1, s1⟩ := h1.run
  obtain ⟨t2, p2, s2⟩ := h2.run
  exact ⟨_, pt_cmp (hpt p1 p2) hm, tstB fun B F0 H0 F H σ st Q Q' R hw k => run2 s1 s2 R hw fun x y F2 H2 d1 m1 d2 m2 f1 f2 ex r1 r2 n1 n2 dj hw2 => ha B F H F2 H2 x y d1 d2 m1 m2 f1 f2 Q Q' ex r1 r2 n1 n2 dj hw2 k⟩
theorem tt_din (hu : X.A.units + 1 < cLine) (h1 : TrE X e1 u) (h2 : TrE X e2 v) (hm : behindInMarks .In e2 = false := by rfl) : TrT X (.Compare e1 [.In] [e2] pos) (wTst (w2 aDin u v)) := tt_2 (fun p q => pc_din hu p q) opa_din h1 h2 hm
theorem tt_dnin (hu : X.A.units + 1 < cLine) (h1 : TrE X e1 u) (h2 : TrE X e2 v) (hm : behindInMarks .NotIn e2 = false := by rfl) : TrT X (.Compare e1 [.NotIn] [e2] pos) (wTst (w2 aDnin u v)) := tt_2 (fun p q => pc_dnotin hu p q) opa_dnin h1 h2 hm
end
theorem SR.recvD {K : PySem.W.Frag} {B : Option Bx} {F0 H0 F H : Hp} {σ : L2.St} {st : AS} {i m : Nat} {kvs : List (Key × PyData)} (R : SR K B F0 H0 F H σ st) (hs : slot st i = .val (dct kvs) (.o (m + 1))) :
    ∃ a kv, σ[i]? = some (some (.ref a)) ∧ H a = some (.dK kv) ∧ kv.map (·.1) = kvs.map (·.1) := by
  obtain ⟨v, fp, q1, t, _⟩ := R.get hs
  obtain ⟨_, _, ks, ds, e0, a, o, xs, fs, g1, g2, g3, g4, g5, g6⟩ := t
  cases e0
  obtain ⟨kv, rfl, e1, rfl, _⟩ := dk_of' g3
  subst g1
  exact ⟨a, kv, q1, g2, e1⟩
section
variable {X : Cx} {e j : Expr} {u v : WE} {p1 p2 pos : Pos}
def dputJ (st : AS) (i : Nat) (d0 : PyData) (m : Nat) (d : PyData) (md : Md) (k : AS → Prop) (dk : PyData) : Prop := ∃ kvs kk, d0 = dct kvs ∧ dk = kD kk ∧ eOk m d md = true ∧ kvs.length < sizeLine ∧ putK st i (.val (dct (putD kvs kk d)) (.o (m + 1))) k
def dputW (own : AS) (i : Nat) (v u : WE) (D : AEnds) (st : AS) (j : Nat) : Prop := match slot st j with
  | .val d0 (.o (m + 1)) => u own fun d md => v own fun dk _ => dputJ own i d0 m d md D.nx dk
  | _ => False
def wDput (i : Nat) (v u : WE) : WS := fun D st => dputW st i v u D st i
theorem ts_dput (i : Nat) {x : Str} (hu : X.A.units + 1 < cLine) (h : TrE X e u) (hj : TrE X j v) (hN : X.N[i]? = some x := by rfl) (hv : Vis X.env.scope x := by first | exact Or.inl rfl | exact Or.inr (Or.inl rfl) | exact Or.inr (Or.inr rfl))
    (hd : (x == ("__debug__" : Str)) = false := by decide) (hcd : (x == ("__classdict__" : Str)) = false := by decide) (hs : swapsWith e (some (.Subscript (.Name x p1) j p2)) pos.line X.env = pure false := by rfl) :
    TrS X (.Assign [.Subscript (.Name x p1) j p2] e pos) (wDput i v u) := by
  obtain ⟨t, p, sd⟩ := h.run
  obtain ⟨tj, pj, sj⟩ := hj.run
  refine ⟨_, ps_dput hu (pe_var hN hv hd hcd) pj p hs, fun B F0 H0 F H σ st D D' R n hw k => ?_⟩
  unfold wDput dputW at hw
  split at hw
  · rename_i d0 m hsl
    refine sd B F0 H0 F H σ st _ _ R hw fun y F1 H1 d md f x1 r1 n1 hq1 => ?_
    have R1 := R.go x1
    obtain ⟨v0, fp0, q1, _, _⟩ := R1.get hsl
    refine ⟨v0, q1, sj B F0 H0 F1 H1 σ st _ _ R1 hq1 fun z F2 H2 dj mj fj x2 r2 n2 hq2 => ?_⟩
    obtain ⟨kvs, kk, rfl, rfl, hk, hz, hq⟩ := hq2
    rw [putK_eq] at hq
    have hq := hq.2
    obtain rfl := key_v (r2.read x2.wf)
    have x12 := x1.trans x2
    obtain ⟨F3, g, x3, _, s3, o3, nd, fr, _, _⟩ := (r1.ext x2).item x12 n1 hk
    obtain ⟨a, o, xs, fs, w1, w2, w2', w3, w4, w5, w6, w7, w8, w9⟩ := R.writeD n x3 (hd := .list (kvs.map fun p => kD p.1)) (ds := kvs.map (·.2)) hsl
    obtain ⟨kv, rfl, e1, rfl, hn⟩ := dk_of' w2'
    rw [q1] at w1
    obtain rfl : v0 = .ref a := by simpa using w1
    have hag : a ∉ g := fun hm => by
      obtain ⟨o, ho⟩ := w6 a (List.mem_cons_self ..)
      rw [(fr a hm).2] at ho; cases ho
    obtain ⟨ke, kn, fs', s1, s2, s4⟩ := put_rel (k := kk) e1 hn w3 o3
    have ha' : a ∉ fs' := fun hm => (s2 a hm).elim w4 hag
    have hlen : kv.length < sizeLine := by
      have := congrArg List.length e1
      rw [List.length_map, List.length_map] at this
      omega
    refine ⟨a, _, rfl, DPut.k w2 hlen, k.nx σ F3 _ _ x3.ff (w9 _ (.list ((putD kvs kk d).map fun p : Key × PyData => kD p.1)) ((putD kvs kk d).map fun p : Key × PyData => p.2) fs' m upd_keep ⟨_, _, upd_same, .inl ⟨_, rfl, ?_, rfl, by rw [ke]; exact kn⟩, fp3_upd s1 ha'⟩ (s4 w5 nd fun b hb hc => ?_) fun b hb => ?_) (noB_put n) hq⟩
    · have := congrArg (List.map kD) ke
      rw [List.map_map, List.map_map] at this
      exact congrArg PyData.list this.symm
    · obtain ⟨o, ho⟩ := w6 b (List.mem_cons_of_mem _ hc)
      rw [(fr b hb).2] at ho; cases ho
    · exact (s2 b hb).elim .inl fun q => .inr ⟨(fr b q).2, (fr b q).1⟩
  · exact hw.elim
end
def wDcmp (m : Nat) (vs : List Nat) (wi : WI) (g : WG) (c : WT) (uk u : WE) (st : AS) (P : List (Key × PyData) → Prop) : Prop := wi st fun ds md => ∃ I : Nat → List (Key × PyData) → Prop, I 0 [] ∧
  (∀ i d acc, ds[i]? = some d → I i acc → ∃ Qg, g d (itm md) (wipeS st vs) Qg ∧ ∀ st2, Qg st2 → ∃ Qc, c st2 Qc ∧ ∀ k, Qc k → match k with
    | true => ∃ Qk : QE, uk st2 Qk ∧ ∀ dk mk, Qk dk mk → ∃ Qv : QE, u st2 Qv ∧ ∀ r mr, Qv r mr → ∃ kk, dk = kD kk ∧ eOk m r mr = true ∧ acc.length < sizeLine ∧ I (i + 1) (putD acc kk r)
    | false => I (i + 1) acc) ∧
  ∀ acc, I ds.length acc → P acc
structure DctSt (K : PySem.W.Frag) (B : Option Bx) (F1 H1 : Hp) (m : Nat) (D : Addr) (acc : List (Key × PyData)) (Fi Ho : Hp) (kv : List (Key × V)) (fs : List Addr) : Prop where
  no : Ho D = none
  ext : Ext K B F1 H1 Fi Ho
  ks : kv.map (·.1) = acc.map (·.1)
  kn : (acc.map (·.1)).Nodup
  ac : Fp3 (Own K Fi Ho m) (kv.map (·.2)) (acc.map (·.2)) fs
  nd : fs.Nodup
  fr : ∀ a ∈ fs, nb B a ∧ H1 a = none
section
variable {K : PySem.W.Frag} {B : Option Bx} {F1 H1 Fi Ho Fk Hk : Hp} {m : Nat} {D : Addr} {acc : List (Key × PyData)} {kv : List (Key × V)} {fs : List Addr}
theorem DctSt.go (h : DctSt K B F1 H1 m D acc Fi Ho kv fs) (nBD : nb B D) (x : Ext K B Fi (upd Ho D (.dK kv)) Fk Hk) : Hk D = some (.dK kv) ∧ Ext K B Fi Ho Fk (AL.wo Hk D) ∧ DctSt K B F1 H1 m D acc Fk (AL.wo Hk D) kv fs := by
  have hD : Hk D = some (.dK kv) := x.hh D _ nBD upd_same
  have xo := x.wo h.no nBD h.ext.wf hD
  exact ⟨hD, xo, wo_same, h.ext.trans xo, h.ks, h.kn, fp3_ext h.ac xo fun a ha => (h.fr a ha).1, h.nd, h.fr⟩
theorem DctSt.add {y : V} {r : PyData} {mr : Md} {f4 : List Addr} {kk : Key} (h : DctSt K B F1 H1 m D acc Fi Ho kv fs) (nBD : nb B D) (x : Ext K B Fi (upd Ho D (.dK kv)) Fk Hk) (r4 : TR K B Fk Hk y r mr f4) (n4 : ∀ a ∈ f4, (upd Ho D (.dK kv)) a = none)
    (hk : eOk m r mr = true) : ∃ F5 fs', Ext K B Fi Ho F5 (AL.wo Hk D) ∧ DctSt K B F1 H1 m D (putD acc kk r) F5 (AL.wo Hk D) (L2.putK kv kk y) fs' := by
  have hD : Hk D = some (.dK kv) := x.hh D _ nBD upd_same
  obtain ⟨F5, g5, x5, _, s5, o5, nd5, fr5, _, _⟩ := r4.item x n4 hk
  have xo := x5.wo h.no nBD h.ext.wf hD
  have h1 : Fp3 (Own K F5 (AL.wo Hk D) m) (kv.map (·.2)) (acc.map (·.2)) fs := fp3_ext h.ac xo fun a ha => (h.fr a ha).1
  have gD : ∀ a ∈ g5, a ≠ D := fun a ha q => by
    have := (fr5 a ha).2
    rw [q, upd_same] at this; cases this
  have o6 : Own K F5 (AL.wo Hk D) m y r g5 := own_mono (Same.refl _) m _ _ _ o5 (fun a ha o h => by rw [wo_ne (gD a ha)]; exact h) fun _ _ h => h
  have frO : ∀ a ∈ g5, Ho a = none := fun a ha => by
    have := (fr5 a ha).2
    rw [upd_ne (gD a ha)] at this; exact this
  obtain ⟨ke, kn, fs', s1, s2, s4⟩ := put_rel (k := kk) h.ks h.kn h1 o6
  refine ⟨F5, fs', xo, wo_same, h.ext.trans xo, ke, kn, s1, s4 h.nd nd5 fun b hb hc => ?_, fun a ha => ?_⟩
  · obtain ⟨⟨ys, hy⟩, _⟩ := fp3_live (fun v d f => own_live m v d f) h.ac b hc
    rw [frO b hb] at hy; cases hy
  · rcases s2 a ha with q | q
    · exact h.fr a q
    · exact ⟨(fr5 a q).1, h.ext.old (fr5 a q).1 (frO a q)⟩
end
section
variable {K : PySem.W.Frag}
def wDcomp (m : Nat) (vs : List Nat) (wi : WI) (g : WG) (c : WT) (uk u : WE) : WE := fun st Q => wDcmp m vs wi g c uk u st fun acc => Q (dct acc) (.o (m + 1))
theorem dcomp_core {m : Nat} {ix vs : List Nat} {ti : TI} {wi : WI} {g : WG} {c : WT} {uk u : WE} (hix : ∀ i ∈ ix, i ∈ vs)
    (si : ∀ B F0 H0 F H σ st Q (Q' : It → Hp → Prop), SR K B F0 H0 F H σ st → wi st Q → (∀ J F' H' ds md, Ext K B F H F' H' → ItOk K (srcG B F' H' md) J ds → Q ds md → Q' J H') → ti σ H Q') :
    ∀ B F0 H0 F H σ st (Q : QE) (Q' : VK), SR K B F0 H0 F H σ st → wDcomp m vs wi g c uk u st Q → (∀ v F' H' d md fp, Ext K B F H F' H' → TR K B F' H' v d md fp → (∀ a ∈ fp, H a = none) → Q d md → Q' v H') → tDc ti (tG K ix g) (tT K c) (tE K uk) (tE K u) vs σ H Q' := by
  intro B F0 H0 F H σ st Q Q' R hw k
  refine si B F0 H0 F H σ st _ _ R hw fun J F1 H1 ds md x1 ok hq D nD => ?_
  obtain ⟨I, i0, turn, done⟩ := hq
  have nBD := x1.wf.new nD
  refine ⟨fun i mm Hh => mm = ds.length - i ∧ i ≤ ds.length ∧ ∃ Fi Ho acc kv fs, Hh = upd Ho D (.dK kv) ∧ DctSt K B F1 H1 m D acc Fi Ho kv fs ∧ I i acc, ⟨_, rfl, Nat.zero_le _, F1, H1, [], [], [], rfl, ⟨nD, .refl x1.wf, rfl, List.nodup_nil, .nil, List.nodup_nil, fun _ h => by simp at h⟩, i0⟩, ?_⟩
  rintro i mm Hh ⟨rfl, hi, Fi, Ho, acc, kv, fs, rfl, S, hI⟩
  have xD := Ext.laid (o := .dK kv) S.ext.wf S.no
  have sG : Same (srcG B F1 H1 md) (upd Ho D (.dK kv)) := by
    cases md with
    | o m => exact (S.ext.ff.trans S.ext.wf.fh).trans fun a o h => by rw [upd_ne (ne_of_none h S.no)]; exact h
    | b => exact (S.ext.era.trans xD.era).trans era_sub
  by_cases hlt : i < ds.length
  · obtain ⟨go, yld⟩ := (ok i _ sG).1 hlt
    refine .inr ⟨go, fun H' => i + 1 ≤ ds.length ∧ ∃ Fi Ho acc kv fs, H' = upd Ho D (.dK kv) ∧ DctSt K B F1 H1 m D acc Fi Ho kv fs ∧ I (i + 1) acc, fun H' h => ⟨ds.length - (i + 1), by omega, rfl, h⟩, fun x H2 hy => ?_⟩
    obtain ⟨d, hd, hc⟩ := yld x H2 hy
    have fin : ∀ (Fk Hk : Hp), Ext K B Fi (upd Ho D (.dK kv)) Fk Hk → TR K B Fk Hk x d (itm md) [] → tG K ix g x (wipe σ vs) Hk fun σ2 H2 => wipe σ2 vs = wipe σ vs ∧ tT K c σ2 H2 fun b H3 =>
        if b = true then tE K uk σ2 H3 fun y H4 => tE K u σ2 H4 fun z H5 => ∃ kvs kk, y = kV kk ∧ H5 D = some (.dK kvs) ∧ kvs.length < sizeLine ∧ (i + 1 ≤ ds.length ∧ ∃ Fi Ho acc kv fs, upd H5 D (.dK (L2.putK kvs kk z)) = upd Ho D (.dK kv) ∧ DctSt K B F1 H1 m D acc Fi Ho kv fs ∧ I (i + 1) acc)
        else (i + 1 ≤ ds.length ∧ ∃ Fi Ho acc kv fs, H3 = upd Ho D (.dK kv) ∧ DctSt K B F1 H1 m D acc Fi Ho kv fs ∧ I (i + 1) acc) := fun Fk Hk xk hr => by
      have Rk := ((((R.go x1).go S.ext).go xD).go xk).wipe vs
      obtain ⟨Qg, hg, hgk⟩ := turn i d acc hd hI
      refine ⟨B, F0, H0, Fk, _, d, itm md, _, Rk, hr, hg, fun σ2 st2 R2 _ w2 q2 => ?_⟩
      obtain ⟨Qc, hc', hck⟩ := hgk st2 q2
      refine ⟨by rw [w2 vs hix, wipe_wipe], B, F0, H0, Fk, st2, _, R2, hc', fun q F3 H3 x3 hq3 => ?_⟩
      have hq3 := hck q hq3
      cases q with
      | false =>
        obtain ⟨hD3, xo3, S3⟩ := S.go nBD (xk.trans x3)
        exact iteF ⟨hlt, F3, _, acc, kv, fs, upd_wo_self hD3, S3, hq3⟩
      | true =>
        obtain ⟨Qk, hk1, hk2⟩ := hq3
        refine iteT ⟨B, F0, H0, F3, st2, _, R2.go x3, hk1, fun y F4 H4 dk mk fk x4 rk nk hq4 => ?_⟩
        obtain ⟨Qv, hv1, hv2⟩ := hk2 dk mk hq4
        refine ⟨B, F0, H0, F4, st2, _, (R2.go x3).go x4, hv1, fun z F5 H5 r mr f5 x5 r5 n5 hq5 => ?_⟩
        obtain ⟨kk, rfl, hk, hz, hI'⟩ := hv2 r mr hq5
        have xk4 := (xk.trans x3).trans x4
        have xk5 := xk4.trans x5
        have hD5 : H5 D = some (.dK kv) := xk5.hh D _ nBD upd_same
        have ry : y = kV kk := key_v (rk.read x4.wf)
        obtain ⟨F7, fs7, xo7, S7⟩ := S.add (kk := kk) nBD xk5 r5 (fun a ha => xk4.old (r5.2.1 a ha) (n5 a ha)) hk
        have hlen : kv.length < sizeLine := by
          have := congrArg List.length S.ks
          rw [List.length_map, List.length_map] at this
          omega
        exact ⟨kv, kk, ry, hD5, hlen, hlt, F7, AL.wo H5 D, _, _, fs7, wo_upd.symm, S7, hI'⟩
    rcases hc with ⟨e1, hr⟩ | ⟨T, xs, es, nT, e1, e2, e3, hr⟩
    · subst e1
      refine fin Fi _ (.refl xD.wf) ?_
      cases md with
      | o m => exact .of (rp_mono S.ext.ff _ _ hr)
      | b => exact ⟨List.nodup_nil, fun _ h => by simp at h, rp_mono (S.ext.era.trans xD.era) _ _ hr, rfl⟩
    · subst e1 e2 e3
      cases md with
      | o m =>
        have xl := Ext.laidF (o := .tup xs) xD.wf nT
        exact fin _ _ xl (.of (.tup (SqT.of upd_same) (rpAll_mono (S.ext.ff.trans xl.ff) _ _ hr)))
      | b =>
        obtain ⟨xl, tl⟩ := newTb (.refl xD.wf) nT (rpAll_mono (S.ext.era.trans xD.era) _ _ hr)
        exact fin _ _ xl tl
  · have e : i = ds.length := by omega
    subst e
    have nB := nBD
    have xo := x1.trans S.ext
    refine .inl ⟨(ok _ _ sG).2 (Nat.le_refl _), k _ Fi _ (dct acc) (.o (m + 1)) (D :: fs) (xo.trans xD) ⟨?_, fun a h => ?_, _, _, rfl, D, .dK kv, kv.map (·.2), fs, rfl, upd_same, .inl ⟨kv, rfl, ?_, rfl, by rw [S.ks]; exact S.kn⟩, S.ext.wf.fh.free S.no, fp3_ext S.ac xD fun a h => (S.fr a h).1, rfl⟩ (fun a h => ?_) (done acc hI)⟩
    · refine List.nodup_cons.mpr ⟨fun h => ?_, S.nd⟩
      obtain ⟨⟨ys, hy⟩, _⟩ := fp3_live (fun v d f => own_live m v d f) S.ac D h
      rw [S.no] at hy; cases hy
    · rcases List.mem_cons.mp h with q | q
      · rw [q]; exact nB
      · exact (S.fr a q).1
    · have := congrArg (List.map kD) S.ks
      rw [List.map_map, List.map_map] at this
      exact congrArg PyData.list this.symm
    · rcases List.mem_cons.mp h with q | q
      · rw [q]; exact x1.old nB nD
      · exact x1.old (S.fr a q).1 (S.fr a q).2
end
section
variable {X : Cx} {kx vx tg iter : Expr} {ifs : List Expr} {scope : Scope} {own : List (Str × Nat)} {pos spos : Pos} {ix : List Nat} {wi : WI} {g : WG} {c : WT} {uk u : WE}
theorem te_dcomp (m : Nat) (hc : X.calm = true) (hN : X.N.Nodup) (hi : TrI X tg iter wi) (ok : BlkOk X.N X.env.scope scope own)
    (hg : ∀ (s : Shared) (H : Hp) (C : Addr) (cl : List (Str × Addr)) (fp : List Addr), TrG (X.blk s H scope (compEnvC scope cl C X.env) fp) ix tg g)
    (ht : ∀ (s : Shared) (H : Hp) (C : Addr) (cl : List (Str × Addr)) (fp : List Addr), TrTs (X.blk s H scope (compEnvC scope cl C X.env) fp) ifs c)
    (hk : ∀ (s : Shared) (H : Hp) (C : Addr) (cl : List (Str × Addr)) (fp : List Addr), TrE (X.blk s H scope (compEnvC scope cl C X.env) fp) kx uk)
    (he : ∀ (s : Shared) (H : Hp) (C : Addr) (cl : List (Str × Addr)) (fp : List Addr), TrE (X.blk s H scope (compEnvC scope cl C X.env) fp) vx u) (hix : ∀ i ∈ ix, i ∈ own.map (·.2) := by decide) (hs : ∀ x, foldedSetIterable iter X.env x = pure x := by intro _; rfl) :
    TrE X (.DictComp kx vx [⟨tg, iter, ifs, 0⟩] scope pos) (wDcomp m (own.map (·.2)) wi g c uk u) := by
  obtain ⟨ti, pi, si⟩ := hi.run
  exact ⟨_, pe_dc (tk := tE X.K uk) (tv := tE X.K u) (g := tG X.K ix g) (tt := tT X.K c) hc hN pi ok (fun s H C cl fp => (hg s H C cl fp).pg) (fun s H C cl fp => (ht s H C cl fp).run) (fun s H C cl fp => (hk s H C cl fp).pe) (fun s H C cl fp => (he s H C cl fp).pe) hs, dcomp_core hix si⟩
theorem ts_dcomp (i : Nat) (keep : Bool) (m : Nat) {y : Str} {py : Pos} (hc : X.calm = true) (hN : X.N.Nodup) (hyl : X.env.scope.names.lookup y = some .local)
    (hsw : swapsWith (.DictComp kx vx [⟨tg, iter, ifs, 0⟩] scope pos) (some (.Name y py)) spos.line X.env = pure true) (hi : TrI X tg iter wi) (ok : BlkOk X.N X.env.scope scope own)
    (hg : ∀ (s : Shared) (H : Hp) (C : Addr) (cl : List (Str × Addr)) (fp : List Addr), TrG (X.blk s H scope (compEnvC scope cl C X.env) fp) ix tg g)
    (ht : ∀ (s : Shared) (H : Hp) (C : Addr) (cl : List (Str × Addr)) (fp : List Addr), TrTs (X.blk s H scope (compEnvC scope cl C X.env) fp) ifs c)
    (hk : ∀ (s : Shared) (H : Hp) (C : Addr) (cl : List (Str × Addr)) (fp : List Addr), TrE (X.blk s H scope (compEnvC scope cl C X.env) fp) kx uk)
    (he : ∀ (s : Shared) (H : Hp) (C : Addr) (cl : List (Str × Addr)) (fp : List Addr), TrE (X.blk s H scope (compEnvC scope cl C X.env) fp) vx u) (hy : X.N[i]? = some y := by rfl) (hix : ∀ i ∈ ix, i ∈ own.map (·.2) := by decide) (hs : ∀ x, foldedSetIterable iter X.env x = pure x := by intro _; rfl) :
    TrS X (.Assign [.Name y py] (.DictComp kx vx [⟨tg, iter, ifs, 0⟩] scope pos) spos) (wSet i keep (wDcomp m (own.map (·.2)) wi g c uk u)) := by
  obtain ⟨ti, pi, si⟩ := hi.run
  refine ⟨_, ps_setDc (tk := tE X.K uk) (tv := tE X.K u) (g := tG X.K ix g) (tt := tT X.K c) hc hN hy hyl hsw pi ok (fun s H C cl fp => (hg s H C cl fp).pg) (fun s H C cl fp => (ht s H C cl fp).run) (fun s H C cl fp => (hk s H C cl fp).pe) (fun s H C cl fp => (he s H C cl fp).pe) hs, fun B F0 H0 F H σ st D D' R n hw k => ?_⟩
  refine dcomp_core hix si B F0 H0 F H σ st _ _ R hw fun v F' H' d md fp x r fr q => ?_
  obtain ⟨hi', q⟩ := q
  split at q
  · rename_i m hk
    obtain ⟨F2, s2, R2⟩ := R.store n x r fr hi' hk
    exact k.nx _ F2 H' _ s2 R2 (noB_put n) q
  · exact q.elim
end
end AL

namespace AL
open PySem PySem.Spec PyProof.Rows L2
abbrev WPP := AS → (List (Key × PyData) → Prop) → Prop
structure TrPP (X : Cx) (ks : List (Option Expr)) (es : List Expr) (w : WPP) : Prop where
  run : ∃ trs, (∀ pos, PPs X pos ks es trs) ∧ ∀ B F0 H0 F H σ st Q (Q' : List (V × V) → Hp → Prop), SR X.K B F0 H0 F H σ st → w st Q →
    (∀ F' H' (kvs : List (Key × PyData)) (kv : List (Key × V)), Ext X.K B F H F' H' → kv.map (·.1) = kvs.map (·.1) → RpAll X.K F' (kv.map (·.2)) (kvs.map (·.2)) → Q kvs → Q' (kv.map fun p => (kV p.1, p.2)) H') → tPairs trs σ H Q'
def wPn : WPP := fun _ Q => Q []
def wPc (a b : WE) (r : WPP) : WPP := fun st Q => a st fun dk _ => b st fun d md => okK d md = true ∧ ∃ k, dk = kD k ∧ r st fun kvs => Q ((k, d) :: kvs)
section
variable {X : Cx} {k v : Expr} {ks : List (Option Expr)} {vs : List Expr} {a b : WE} {r : WPP} {pos : Pos}
theorem tpp_nil : TrPP X [] [] wPn := ⟨[], fun _ => pps_nil, fun B F0 H0 F H σ st Q Q' R hw k => k F H [] [] (.refl R.wf) rfl .nil hw⟩
theorem tpp_cons (h1 : TrE X k a) (h2 : TrE X v b) (h3 : TrPP X ks vs r) : TrPP X (some k :: ks) (v :: vs) (wPc a b r) := by
  obtain ⟨t1, p1, s1⟩ := h1.run
  obtain ⟨t2, p2, s2⟩ := h2.run
  obtain ⟨t3, p3, s3⟩ := h3.run
  refine ⟨_, fun pos => pps_cons p1 p2 (p3 pos), fun B F0 H0 F H σ st Q Q' R hw kk => s1 B F0 H0 F H σ st _ _ R hw fun x F1 H1 d1 m1 f1 x1 r1 n1 hq1 => ?_⟩
  refine s2 B F0 H0 F1 H1 σ st _ _ (R.go x1) hq1 fun y F2 H2 d2 m2 f2 x2 r2 n2 hq2 => ?_
  obtain ⟨hk, key, rfl, hq⟩ := hq2
  obtain ⟨e3, s4, hp⟩ := r2.keep hk x2 n2
  refine s3 B F0 H0 _ H2 σ st _ _ ((R.go x1).go e3) hq fun F3 H3 kvs kv x4 q1 q2 hq => ?_
  obtain rfl := key_v (r1.read x1.wf)
  exact kk F3 H3 ((key, d2) :: kvs) ((key, y) :: kv) ((x1.trans e3).trans x4) (by rw [List.map_cons, List.map_cons, q1]) (.cons (rp_mono x4.ff _ _ hp) q2) hq
def mergeD (kvs more : List (Key × PyData)) : List (Key × PyData) := more.foldl (fun acc p => putD acc p.1 p.2) kvs
theorem merge_rel {K : PySem.W.Frag} {F H : Hp} : ∀ {m1 : List (Key × V)} {m2 : List (Key × PyData)} {kv : List (Key × V)} {kvs : List (Key × PyData)}, m1.map (·.1) = m2.map (·.1) → RpAll K F (m1.map (·.2)) (m2.map (·.2)) →
    kv.map (·.1) = kvs.map (·.1) → (kvs.map (·.1)).Nodup → RpAll K F (kv.map (·.2)) (kvs.map (·.2)) → (L2.mergeK kv m1).map (·.1) = (mergeD kvs m2).map (·.1) ∧ ((mergeD kvs m2).map (·.1)).Nodup ∧ RpAll K F ((L2.mergeK kv m1).map (·.2)) ((mergeD kvs m2).map (·.2))
  | [], [], _, _, _, _, h1, h2, h3 => ⟨h1, h2, h3⟩
  | [], _ :: _, _, _, h, _, _, _, _ => by simp at h
  | _ :: _, [], _, _, h, _, _, _, _ => by simp at h
  | (a, v) :: m1, (c, d) :: m2, kv, kvs, h, g, h1, h2, h3 => by
    simp only [List.map_cons, List.cons.injEq] at h
    obtain ⟨rfl, h'⟩ := h
    cases g with
    | cons g1 g2 =>
      have f3 : Fp3 (Own K F F 0) (kv.map (·.2)) (kvs.map (·.2)) [] := by
        have : ∀ {vs : List V} {ds : List PyData}, RpAll K F vs ds → Fp3 (Own K F F 0) vs ds [] := fun {vs} => by
          induction vs with
          | nil => intro ds h; cases h; exact .nil
          | cons v vs ih =>
            intro ds h
            cases h with
            | cons a b => exact .cons (fs := []) (own0 a) (ih b)
        exact this h3
      obtain ⟨p1, p2, fs', p3, _, _⟩ := put_rel (k := a) h1 h2 f3 (own0 g1)
      have z := merge_rel (H := H) (m1 := m1) (m2 := m2) h' g2 p1 p2 (fp3_rp0 p3)
      exact z
def wDsp (r : WPP) : WE := fun st Q => r st fun kvs => kvs.length ≤ 15 ∧ Q (dct (mergeD [] kvs)) (.o 1)
theorem te_dsp (h : TrPP X ks vs r) (hall : ks.all (·.isSome) = true := by rfl) (hl : ks.length = vs.length := by rfl) (h0 : ks ≠ [] := by exact fun z => nomatch z) (h15 : ks.length ≤ 15 := by decide) : TrE X (.Dict ks vs pos) (wDsp r) := by
  obtain ⟨trs, pp, s⟩ := h.run
  refine ⟨_, pe_disp (pp pos) hall hl h0 h15, fun B F0 H0 F H σ st Q Q' R hw k p np => ?_⟩
  have nB := R.wf.new np
  have xp := Ext.laid (o := .dK []) R.wf np
  refine s B F0 H0 F _ σ st _ _ (R.go xp) hw fun F' H' kvs kv x1 q1 q2 hq => ?_
  have hp : H' p = some (.dK []) := x1.hh p _ nB upd_same
  have xo := x1.wo np nB R.wf hp
  obtain ⟨hlen, hq⟩ := hq
  obtain ⟨m1, m2, m3⟩ := merge_rel (H := H') (kv := []) (kvs := []) q1 q2 rfl List.nodup_nil .nil
  have hl2 : kv.length ≤ 15 := by
    have := congrArg List.length q1
    rw [List.length_map, List.length_map] at this
    omega
  refine ⟨hp, kv, rfl, hl2, ?_⟩
  have xl := Ext.laid (o := .dK (L2.mergeK [] kv)) xo.wf wo_same
  rw [wo_upd] at xl
  have f3 : Fp3 (Own X.K F' (upd H' p (.dK (L2.mergeK [] kv))) 0) ((L2.mergeK [] kv).map (·.2)) ((mergeD [] kvs).map (·.2)) [] := by
    have : ∀ {vs : List V} {ds : List PyData}, RpAll X.K F' vs ds → Fp3 (Own X.K F' (upd H' p (.dK (L2.mergeK [] kv))) 0) vs ds [] := fun {vs} => by
      induction vs with
      | nil => intro ds h; cases h; exact .nil
      | cons v vs ih =>
        intro ds h
        cases h with
        | cons a b => exact .cons (fs := []) (own0 a) (ih b)
    exact this m3
  refine k (.ref p) F' _ (dct (mergeD [] kvs)) (.o 1) [p] (xo.trans xl) ⟨by simp, fun a ha => by rw [List.mem_singleton.mp ha]; exact nB, _, _, rfl, p, _, _, [], rfl, upd_same, .inl ⟨_, rfl, ?_, rfl, by rw [m1]; exact m2⟩, xo.wf.fh.free wo_same, f3, rfl⟩ (fun a ha => by rw [List.mem_singleton.mp ha]; exact np) hq
  have := congrArg (List.map kD) m1
  rw [List.map_map, List.map_map] at this
  exact congrArg PyData.list this.symm
end
section
variable {X : Cx} {o i e f : Expr} {u v w : WE} {apos cpos : Pos}
def wGet2 (u v w : WE) : WE := fun st Q => u st fun d1 _ => ∃ kvs, d1 = dct kvs ∧ v st fun dk _ => w st fun dz _ => ∃ k, dk = kD k ∧ ((kvs.map (·.2)).all sc = true ∧ sc dz = true) ∧ Q ((lookD kvs k).getD dz) (.o 0)
theorem isD_of {K : PySem.W.Frag} {H : Hp} {x : V} {kvs : List (Key × PyData)} (h : Rp K H x (dct kvs)) : ∃ a kv, x = .ref a ∧ H a = some (.dK kv) ∧ kv.map (·.1) = kvs.map (·.1) ∧ RpAll K H (kv.map (·.2)) (kvs.map (·.2)) := by
  unfold dct at h
  cases h with
  | dct h1 h2 h3 =>
    obtain ⟨kv, rfl, e, rfl, _⟩ := dk_of' h2
    exact ⟨_, kv, rfl, h1, e, h3⟩
theorem look_sc {kvs : List (Key × PyData)} {k : Key} {d : PyData} (h : lookD kvs k = some d) (a : (kvs.map (·.2)).all sc = true) : sc d = true := by
  unfold lookD at h
  obtain ⟨p, hp, rfl⟩ := Option.map_eq_some_iff.mp h
  exact List.all_eq_true.mp a _ (List.mem_map.mpr ⟨p, List.mem_of_find?_eq_some hp, rfl⟩)
theorem te_get2 (hu : X.A.units + 1 < cLine) (ho : TrE X o u) (he : TrE X e v) (hf : TrE X f w) (m : M2 X o "get" apos e f cpos := by exact ⟨rfl, rfl, rfl, rfl⟩) : TrE X (.Call (.Attribute o "get" apos) [e, f] [] cpos) (wGet2 u v w) := by
  obtain ⟨t1, p1, s1⟩ := ho.run
  obtain ⟨t2, p2, s2⟩ := he.run
  obtain ⟨t3, p3, s3⟩ := hf.run
  refine ⟨_, pe_dget2 hu p1 p2 p3 m, fun B F0 H0 F H σ st Q Q' R hw kk => s1 B F0 H0 F H σ st _ _ R hw fun x F1 H1 d1 m1 f1 x1 r1 n1 hq1 => ?_⟩
  obtain ⟨kvs, rfl, hq1⟩ := hq1
  obtain ⟨a, kv, rfl, g1, g2, g3⟩ := isD_of (r1.readH x1.wf)
  refine ⟨a, rfl, .inl ⟨kv, .inl g1⟩, s2 B F0 H0 F1 H1 σ st _ _ (R.go x1) hq1 fun y F2 H2 dk m2 f2 x2 r2 n2 hq2 => ?_⟩
  refine s3 B F0 H0 F2 H2 σ st _ _ ((R.go x1).go x2) hq2 fun z F3 H3 dz m3 f3 x3 r3 n3 hq3 => ?_
  obtain ⟨key, rfl, ⟨hs, hz⟩, hq⟩ := hq3
  obtain rfl := key_v (r2.read x2.wf)
  have x13 := (x1.trans x2).trans x3
  obtain ⟨a', kv', e', g1', g2', g3'⟩ := isD_of (((r1.ext x2).ext x3).readH x13.wf)
  cases e'
  refine ⟨valV kv' key, DGet.k g1', ?_⟩
  rcases look_rel key g2' (rpAll_at g3') with ⟨q, q'⟩ | ⟨d', w', j, q1, q2, _, _, q5⟩
  · rw [q] at hq
    rw [q']
    exact kk z F3 H3 dz (.o 0) [] x13 (.of (r3.scal x13.wf hz)) (fun _ h => by simp at h) hq
  · rw [q1] at hq
    rw [q2]
    exact kk w' F3 H3 d' (.o 0) [] x13 (.of (rp_sc q5 (look_sc q1 hs))) (fun _ h => by simp at h) hq
theorem hu1 {k : Nat} {A : Around} (r : Room k A) : A.units + 1 < cLine := by have := r.un; omega
def wLenD (u : WE) : WE := fun st Q => u st fun d _ => ∃ kvs, d = dct kvs ∧ Q (.int (kvs.length : Nat)) (.o 0)
theorem te_lenD {p lpos : Pos} (ho : TrE X e u) (hg : Gl X "len") (hm : X.mg "len" = none) (hst : starEach [e] X.env = (false, eval e X.env) :: starEach [] X.env := by rfl) : TrE X (.Call (.Name "len" p) [e] [] lpos) (wLenD u) := by
  obtain ⟨t, p1, s⟩ := ho.run
  refine ⟨_, pe_callB call_lenD hg hm PySem.boot_len (pa_cons p1 pa_nil hst) (by decide) (by decide) hst rfl, fun B F0 H0 F H σ st Q Q' R hw kk => s B F0 H0 F H σ st _ _ R hw fun x F1 H1 d m f x1 r1 n1 hq => ?_⟩
  obtain ⟨kvs, rfl, hq⟩ := hq
  obtain ⟨a, kv, rfl, g1, g2, g3⟩ := isD_of (r1.readH x1.wf)
  refine ⟨a, kv, rfl, g1, kk _ F1 H1 _ (.o 0) [] x1 (.of ?_) (fun _ h => by simp at h) hq⟩
  have : kv.length = kvs.length := by
    have := congrArg List.length g2
    rwa [List.length_map, List.length_map] at this
  rw [← this]
  exact .int _
end
section
variable {Q : QE} {u v w : WE} {st own r : AS} {kvs : List (Key × PyData)} {z : Int} {s : Str} {md md' : Md} {m i j : Nat} {d : PyData} {D : AEnds}
theorem r_dnew : wDnew m st Q = Q (dct []) (.o (m + 1)) := rfl
theorem exD {P : List (Key × PyData) → Key → Prop} {k : Key} : (∃ kvs' k', dct kvs = dct kvs' ∧ kD k = kD k' ∧ P kvs' k') = P kvs k := propext ⟨fun ⟨a, b, e1, e2, h⟩ => by rw [dct_inj e1, kD_inj e2]; exact h, fun h => ⟨_, _, rfl, rfl, h⟩⟩
theorem r_datI : aDat (dct kvs) md (.int z) md' Q = DatP kvs (.inl z) md Q (tg Q) := exD (k := .inl z)
theorem r_datS : aDat (dct kvs) md (.str s) md' Q = DatP kvs (.inr s) md Q (tg Q) := exD (k := .inr s)
theorem dat_ {t : Tg Q} {k : Key} (h : lookD kvs k = some d) (hq : Q d (elm md d)) : DatP kvs k md Q t := ⟨d, h, hq⟩
theorem dat_b {t : Tg Q} {k : Key} (h : lookD kvs k = some d) (hq : scK Q d) : DatP kvs k .b Q t := ⟨d, h, hq⟩
theorem exD2 {P : List (Key × PyData) → Key → Prop} {k : Key} : (∃ kvs' k', kD k = kD k' ∧ dct kvs = dct kvs' ∧ P kvs' k') = P kvs k := propext ⟨fun ⟨a, b, e1, e2, h⟩ => by rw [dct_inj e2, kD_inj e1]; exact h, fun h => ⟨_, _, rfl, rfl, h⟩⟩
theorem r_dinI : aDin (.int z) md (dct kvs) md' Q = Q (.bool (lookD kvs (.inl z)).isSome) (.o 0) := exD2 (k := .inl z)
theorem r_dinS : aDin (.str s) md (dct kvs) md' Q = Q (.bool (lookD kvs (.inr s)).isSome) (.o 0) := exD2 (k := .inr s)
theorem r_dninI : aDnin (.int z) md (dct kvs) md' Q = Q (.bool (!(lookD kvs (.inl z)).isSome)) (.o 0) := exD2 (k := .inl z)
theorem r_dninS : aDnin (.str s) md (dct kvs) md' Q = Q (.bool (!(lookD kvs (.inr s)).isSome)) (.o 0) := exD2 (k := .inr s)
theorem r_dput : wDput i v u D st = dputW st i v u D st i := rfl
theorem r_dput0 : dputW own i v u D (.val d (.o (m + 1)) :: r) 0 = u own fun d' md => v own fun dk _ => dputJ own i d m d' md D.nx dk := rfl
theorem r_dputS {x : SV} : dputW own i v u D (x :: r) (j + 1) = dputW own i v u D r j := rfl
theorem r_dputI {k : AS → Prop} : dputJ st i (dct kvs) m d md k (.int z) = (eOk m d md = true ∧ kvs.length < sizeLine ∧ putK st i (.val (dct (putD kvs (.inl z) d)) (.o (m + 1))) k) := exD (k := .inl z)
theorem r_dputT {k : AS → Prop} : dputJ st i (dct kvs) m d md k (.str s) = (eOk m d md = true ∧ kvs.length < sizeLine ∧ putK st i (.val (dct (putD kvs (.inr s) d)) (.o (m + 1))) k) := exD (k := .inr s)
theorem r_wPn {Q : List (Key × PyData) → Prop} : wPn st Q = Q [] := rfl
def ppJ (b : WE) (r : WPP) (st : AS) (Q : List (Key × PyData) → Prop) (dk : PyData) (_ : Md) : Prop := b st fun d md => okK d md = true ∧ ∃ k, dk = kD k ∧ r st fun kvs => Q ((k, d) :: kvs)
theorem r_wPc {b : WE} {rr : WPP} {Q : List (Key × PyData) → Prop} : wPc u b rr st Q = u st (ppJ b rr st Q) := rfl
theorem exKy {P : Key → Prop} {k : Key} : (∃ k', kD k = kD k' ∧ P k') = P k := propext ⟨fun ⟨b, e, h⟩ => by rw [kD_inj e]; exact h, fun h => ⟨_, rfl, h⟩⟩
theorem r_ppI {b : WE} {rr : WPP} {Q : List (Key × PyData) → Prop} : ppJ b rr st Q (.int z) md = b st fun d md => okK d md = true ∧ rr st fun kvs => Q ((.inl z, d) :: kvs) := congrArg _ (funext fun d => funext fun md => congrArg _ (exKy (k := .inl z)))
theorem r_ppS {b : WE} {rr : WPP} {Q : List (Key × PyData) → Prop} : ppJ b rr st Q (.str s) md = b st fun d md => okK d md = true ∧ rr st fun kvs => Q ((.inr s, d) :: kvs) := congrArg _ (funext fun d => funext fun md => congrArg _ (exKy (k := .inr s)))
theorem r_dsp {rr : WPP} : wDsp rr st Q = rr st fun kvs => kvs.length ≤ 15 ∧ Q (dct (mergeD [] kvs)) (.o 1) := rfl
def get2K (st : AS) (v w : WE) (Q : QE) (d1 : PyData) (_ : Md) : Prop := ∃ kvs, d1 = dct kvs ∧ v st fun dk _ => w st fun dz _ => ∃ k, dk = kD k ∧ ((kvs.map (·.2)).all sc = true ∧ sc dz = true) ∧ Q ((lookD kvs k).getD dz) (.o 0)
theorem r_get2 : wGet2 u v w st Q = u st (get2K st v w Q) := rfl
def get2J (st : AS) (kvs : List (Key × PyData)) (w : WE) (Q : QE) (dk : PyData) (_ : Md) : Prop := w st fun dz _ => ∃ k, dk = kD k ∧ ((kvs.map (·.2)).all sc = true ∧ sc dz = true) ∧ Q ((lookD kvs k).getD dz) (.o 0)
theorem r_get2K : get2K st v w Q (dct kvs) md = v st (get2J st kvs w Q) := propext ⟨fun ⟨a, e, h⟩ => by rw [dct_inj e]; exact h, fun h => ⟨_, rfl, h⟩⟩
theorem r_get2I : get2J st kvs w Q (.int z) md = w st fun dz _ => ((kvs.map (·.2)).all sc = true ∧ sc dz = true) ∧ Q ((lookD kvs (.inl z)).getD dz) (.o 0) := congrArg _ (funext fun d => funext fun md => exKy (k := .inl z))
theorem r_get2S : get2J st kvs w Q (.str s) md = w st fun dz _ => ((kvs.map (·.2)).all sc = true ∧ sc dz = true) ∧ Q ((lookD kvs (.inr s)).getD dz) (.o 0) := congrArg _ (funext fun d => funext fun md => exKy (k := .inr s))
def lenDK (Q : QE) (d : PyData) (_ : Md) : Prop := ∃ kvs, d = dct kvs ∧ Q (.int (kvs.length : Nat)) (.o 0)
theorem r_lenD : wLenD u st Q = u st (lenDK Q) := rfl
theorem r_lenDK : lenDK Q (dct kvs) md = Q (.int (kvs.length : Nat)) (.o 0) := propext ⟨fun ⟨a, e, h⟩ => by rw [dct_inj e]; exact h, fun h => ⟨_, rfl, h⟩⟩
def DcP (m : Nat) (vs : List Nat) (g : WG) (c : WT) (uk u : WE) (st : AS) (P : List (Key × PyData) → Prop) (ds : List PyData) (md : Md) (_ : Tg P) : Prop := ∃ I : Nat → List (Key × PyData) → Prop, I 0 [] ∧
  (∀ i d acc, ds[i]? = some d → I i acc → ∃ Qg, g d (itm md) (wipeS st vs) Qg ∧ ∀ st2, Qg st2 → ∃ Qc, c st2 Qc ∧ ∀ k, Qc k → match k with
    | true => ∃ Qk : QE, uk st2 Qk ∧ ∀ dk mk, Qk dk mk → ∃ Qv : QE, u st2 Qv ∧ ∀ r mr, Qv r mr → ∃ kk, dk = kD kk ∧ eOk m r mr = true ∧ acc.length < sizeLine ∧ I (i + 1) (putD acc kk r)
    | false => I (i + 1) acc) ∧
  ∀ acc, I ds.length acc → P acc
def dcK (m : Nat) (vs : List Nat) (g : WG) (c : WT) (uk u : WE) (st : AS) (P : List (Key × PyData) → Prop) (ds : List PyData) (md : Md) : Prop := DcP m vs g c uk u st P ds md (tg P)
theorem r_dcomp {vs : List Nat} {wi : WI} {g : WG} {c : WT} {uk : WE} : wDcomp m vs wi g c uk u st Q = wi st (dcK m vs g c uk u st fun acc => Q (dct acc) (.o (m + 1))) := rfl
theorem r_dcK {vs : List Nat} {g : WG} {c : WT} {uk : WE} {P : List (Key × PyData) → Prop} {ds : List PyData} : dcK m vs g c uk u st P ds md = DcP m vs g c uk u st P ds md (tg P) := rfl
theorem putD_len {kvs : List (Key × PyData)} {k : Key} {d : PyData} : (putD kvs k d).length ≤ kvs.length + 1 := by
  unfold putD
  split <;> simp
theorem mergeD_len : ∀ (more kvs : List (Key × PyData)), (mergeD kvs more).length ≤ kvs.length + more.length
  | [], _ => Nat.le_refl _
  | p :: r, kvs => by
    have h1 := mergeD_len r (putD kvs p.1 p.2)
    have h2 := putD_len (kvs := kvs) (k := p.1) (d := p.2)
    rw [List.length_cons]
    show (mergeD (putD kvs p.1 p.2) r).length ≤ _
    omega
theorem mergeD_app (a b kvs : List (Key × PyData)) : mergeD kvs (a ++ b) = mergeD (mergeD kvs a) b := by unfold mergeD; rw [List.foldl_append]
theorem dc_flt {α : Type} {f0 : α → PyData} {xs : List α} {vs : List Nat} {g : WG} {c : WT} {uk : WE} {P : List (Key × PyData) → Prop} {t : Tg P} (p : α → Bool) (kf : α → Key) (vf : α → PyData) (hl : xs.length ≤ sizeLine)
    (hs : ∀ x ∈ xs, wipK vs st fun s => g (f0 x) (itm md) s fun st2 => c st2 fun k => br k (uk st2 fun dk _ => u st2 fun r mr => dk = kD (kf x) ∧ eOk m r mr = true ∧ p x = true ∧ r = vf x) (p x = false)) (hq : P (mergeD [] ((xs.filter p).map fun x => (kf x, vf x)))) : DcP m vs g c uk u st P (xs.map f0) md t := by
  refine ⟨fun i acc => acc = mergeD [] (((xs.take i).filter p).map fun x => (kf x, vf x)), by simp [mergeD], fun i d acc h hI => ?_, fun acc h => ?_⟩
  · rw [List.getElem?_map] at h
    cases q : xs[i]? with
    | none => rw [q] at h; cases h
    | some x =>
      rw [q] at h
      cases h
      have hi := (List.getElem?_eq_some_iff.mp q).1
      have h1 := wipK_eq _ _ _ (hs x (List.mem_of_getElem? q))
      have ht : xs.take (i + 1) = xs.take i ++ [x] := by rw [List.take_succ, q]; rfl
      have hlen : acc.length < sizeLine := by
        rw [hI]
        have a1 := mergeD_len (((xs.take i).filter p).map fun x => (kf x, vf x)) []
        have a2 := List.length_filter_le p (xs.take i)
        rw [List.length_take] at a2
        rw [List.length_map] at a1
        simp only [List.length_nil] at a1
        omega
      have e1 : ∀ b : Bool, p x = b → mergeD [] (((xs.take (i + 1)).filter p).map fun x => (kf x, vf x)) = if b then putD acc (kf x) (vf x) else acc := fun b hb => by
        rw [ht, List.filter_append, List.map_append, mergeD_app, ← hI]
        cases b with
        | true => simp [hb, mergeD]
        | false => simp [hb, mergeD]
      refine ⟨_, h1, fun st2 hY => ⟨_, hY, fun k hk => ?_⟩⟩
      cases k with
      | true =>
        refine ⟨_, hk, fun dk mk hQk => ⟨_, hQk, fun r mr ⟨a1, a2, a3, a4⟩ => ⟨kf x, a1, a2, hlen, ?_⟩⟩⟩
        show putD acc (kf x) r = _
        rw [e1 true a3, if_pos rfl, a4]
      | false =>
        show acc = _
        rw [e1 false hk]
        rfl
  · rw [List.length_map, List.take_of_length_le (Nat.le_refl _)] at h
    rw [h]; exact hq
theorem dc_map {α : Type} {f0 : α → PyData} {xs : List α} {vs : List Nat} {g : WG} {c : WT} {uk : WE} {P : List (Key × PyData) → Prop} {t : Tg P} (kf : α → Key) (vf : α → PyData) (hl : xs.length ≤ sizeLine)
    (hs : ∀ x ∈ xs, wipK vs st fun s => g (f0 x) (itm md) s fun st2 => c st2 fun k => br k (uk st2 fun dk _ => u st2 fun r mr => dk = kD (kf x) ∧ eOk m r mr = true ∧ true = true ∧ r = vf x) (true = false)) (hq : P (mergeD [] (xs.map fun x => (kf x, vf x)))) : DcP m vs g c uk u st P (xs.map f0) md t :=
  dc_flt (fun _ => true) kf vf hl hs (by rwa [List.filter_eq_self.mpr fun _ _ => rfl])
theorem mergeD_new : ∀ (more kvs : List (Key × PyData)), ((kvs ++ more).map (·.1)).Nodup → mergeD kvs more = kvs ++ more
  | [], kvs, _ => by simp [mergeD]
  | p :: r, kvs, h => by
    have h1 : putD kvs p.1 p.2 = kvs ++ [p] := by
      unfold putD
      rw [if_neg]
      intro q
      obtain ⟨x, hx, e⟩ := List.any_eq_true.mp q
      rw [List.map_append, List.map_cons] at h
      exact (List.nodup_append.mp h).2.2 x.1 (List.mem_map.mpr ⟨x, hx, rfl⟩) p.1 (List.mem_cons_self ..) (of_decide_eq_true e)
    show mergeD (putD kvs p.1 p.2) r = _
    rw [h1, mergeD_new r (kvs ++ [p]) (by simpa using h)]
    simp
theorem look_map {α : Type} {kf : α → Key} {vf : α → PyData} : ∀ {xs : List α} {x : α}, (xs.map kf).Nodup → x ∈ xs → lookD (xs.map fun x => (kf x, vf x)) (kf x) = some (vf x)
  | a :: r, x, hn, hm => by
    obtain ⟨n1, n2⟩ := List.nodup_cons.mp hn
    unfold lookD
    rw [List.map_cons, List.find?_cons]
    by_cases e : kf a = kf x
    · rcases List.mem_cons.mp hm with rfl | hm
      · simp
      · exact absurd (show kf a ∈ r.map kf from List.mem_map.mpr ⟨x, hm, e.symm⟩) n1
    · rcases List.mem_cons.mp hm with rfl | hm
      · exact absurd rfl e
      · have := look_map (vf := vf) n2 hm
        unfold lookD at this
        simpa [e] using this
end
end AL

namespace AL
open PySem PySem.Spec PyProof.Rows L2
section
variable {X : Cx} {ea eb ec : Expr} {u v w : WE} {pos p p2 pos2 : Pos} {tg : Expr}
theorem rgC_pos {a b c : Int} (h : Rg3Ok a b c) : RgC a b c (rgN a b c) := by
  have h' := h
  obtain ⟨h1, h2, h3, h4, h5, h6⟩ := h'
  exact ⟨by omega, by omega, rg3_small h, PyProof.Rows.rangeSize_toNat a b c⟩
theorem rgC_neg {a b : Int} (h : inB a) (h2 : inB b) : RgC a b (-1) (a - b).toNat := RgC.neg h.1 h.2 h2.1 h2.2
def rgVC (a c : Int) (n : Nat) : List V := (List.range n).map fun i : Nat => V.int (a + (i : Nat) * c)
theorem rpAll_rgC {K : PySem.W.Frag} {F : Hp} (a c : Int) (n : Nat) : RpAll K F (rgVC a c n) (rngs a c n) := by
  unfold rgVC rngs
  induction List.range n with
  | nil => exact .nil
  | cons i r ih => exact .cons (.int _) ih
def r3K (Q : PyData → PyData → PyData → Prop) (d d2 d3 : PyData) (_ : Md) : Prop := Q d d2 d3
def wRngC (u v w : WE) : WI := fun st Q => u st fun d1 _ => v st fun d2 _ => w st fun d3 _ => match d1, d2, d3 with
  | .int i, .int j, .int k => ∃ n, RgC i j k n ∧ Q (rngs i k n) (.o 0)
  | _, _, _ => False
theorem ti_rngC (h : TrE X ea u) (h2 : TrE X eb v) (h3 : TrE X ec w) (hg : Gl X "range") (hm : X.mg "range" = none)
    (hst : starEach [ea, eb, ec] X.env = (false, eval ea X.env) :: starEach [eb, ec] X.env := by rfl) (hst2 : starEach [eb, ec] X.env = (false, eval eb X.env) :: starEach [ec] X.env := by rfl) (hst3 : starEach [ec] X.env = (false, eval ec X.env) :: starEach [] X.env := by rfl)
    (hpl : (backTo pos (starEach [eb, ec] X.env)).any (·.1) = false := by rfl) :
    TrI X tg (.Call (.Name "range" p) [ea, eb, ec] [] pos) (wRngC u v w) := by
  obtain ⟨t, pp, s⟩ := h.run
  obtain ⟨t2, pp2, s2⟩ := h2.run
  obtain ⟨t3, pp3, s3⟩ := h3.run
  refine ⟨_, pi_range3 hg hm (pa_cons pp (pa_cons pp2 (pa_cons pp3 pa_nil hst3) hst2) hst) hst hpl, fun B F0 H0 F H σ st Q Q' R hw k => ?_⟩
  refine s B F0 H0 F H σ st _ _ R hw fun x F1 H1 d1 m1 f1 x1 r1 n1 hq => s2 B F0 H0 F1 H1 σ st _ _ (R.go x1) hq fun y F2 H2 d2 m2 f2 x2 r2 n2 hq => s3 B F0 H0 F2 H2 σ st _ _ (R.go (x1.trans x2)) hq fun z F3 H3 d3 m3 f3 x3 r3 n3 hq => ?_
  split at hq
  · have h1 := (r1.ext (x2.trans x3)).read x3.wf
    have h2 := (r2.ext x3).read x3.wf
    have h3 := r3.read x3.wf
    cases h1
    cases h2
    cases h3
    obtain ⟨n, ok, hq⟩ := hq
    exact ⟨_, _, _, n, rfl, ok, k _ F3 H3 _ (.o 0) ((x1.trans x2).trans x3) itOk_rngC hq⟩
  · exact hq.elim
def PRgC (X : Cx) (e : Expr) (t : L2.St → Hp → (Int → Int → Int → Nat → Hp → Prop) → Prop) : Prop :=
  ∀ (pins : List (Addr × Obj)) (s : Shared) (σ : L2.St) (H : Hp) (Q : Int → Int → Int → Nat → Hp → Prop), Inv X pins σ H s → t σ H Q →
    wpAny (model X.prog X.w) X.A (eval e X.env) (fun x s' => ∃ r a b c n t u v H', x = .ref r ∧ IsRange s'.heap r a b c t u v ∧ Inv X pins σ H' s' ∧ RgC a b c n ∧ Q a b c n H') X.xe s
def tRgC (ta tb tc : TE) : L2.St → Hp → (Int → Int → Int → Nat → Hp → Prop) → Prop := fun σ H Q => ta σ H fun x H1 => tb σ H1 fun y H2 => tc σ H2 fun z H3 => ∃ i j k n, x = .int i ∧ y = .int j ∧ z = .int k ∧ RgC i j k n ∧ Q i j k n H3
theorem prg_C {ta tb tc : TE} (hg : Gl X "range") (hm : X.mg "range" = none) (ha : PE X ea ta) (hb : PE X eb tb) (hc : PE X ec tc) (na : starEach [ea, eb, ec] X.env = (false, eval ea X.env) :: starEach [eb, ec] X.env := by rfl)
    (nb : starEach [eb, ec] X.env = (false, eval eb X.env) :: starEach [ec] X.env := by rfl) (nc : starEach [ec] X.env = (false, eval ec X.env) :: starEach [] X.env := by rfl)
    (hp : (backTo pos (starEach [eb, ec] X.env)).any (·.1) = false := by rfl) : PRgC X (.Call (.Name "range" p) [ea, eb, ec] [] pos) (tRgC ta tb tc) := by
  intro pins s σ H Q I h
  refine Call_ (ld_blt I hg hm boot_range (PyProof.Rows.callWith_type1 (args_cons (thn (ha.run pins s σ H _ I h) fun v s1 ⟨x, H1, I1, r1, q1⟩ => args_cons (thn (hb.run pins s1 σ H1 _ I1 q1) fun v2 s2 ⟨y, H2, I2, r2, q2⟩ => one_arg hc I2 q2 (fun u s3 z H3 I3 r3 q => ?_) nc) nb) na) na hp))
  obtain ⟨i, j, k, n, rfl, rfl, rfl, ok, q⟩ := q
  obtain ⟨t, rfl⟩ := r1
  obtain ⟨t', rfl⟩ := r2
  obtain ⟨t'', rfl⟩ := r3
  have ok' := ok
  obtain ⟨c0, c1, c2, c3⟩ := ok'
  exact call_range_3 c0 ⟨_, i, j, k, n, _, _, _, H3, rfl, IsRange.new _ _ _ _ _ _ _, I3.kept fun b u e => Heap.get?_push_of_some _ e, ok, q⟩ (Or.inl (PyProof.noPylong_small c1))
theorem vals_rgC {a c : Int} {n : Nat} {acc : Array Value} (h : ItemsOf (fun i v => ∃ t, v = .int (a + i * c) t) acc n) : Vals (rgVC a c n) acc.toList := by
  have e : acc.toList.length = n := by rw [Array.length_toList]; exact h.1
  unfold rgVC
  rw [← e]
  refine vals_of_get acc.toList _ fun j u hj => ?_
  obtain ⟨t, rfl⟩ := h.2 j u (by rw [← hj, Array.getElem?_toList])
  exact ⟨t, rfl⟩
def tTupRgC (te : L2.St → Hp → (Int → Int → Int → Nat → Hp → Prop) → Prop) : TE := fun σ H Q => te σ H fun a _ c n H1 => n ≤ 2 ^ 24 ∧ ∀ q, H1 q = none → Q (.ref q) (upd H1 q (.tup (rgVC a c n)))
theorem pe_tupRgC {e : Expr} {te : L2.St → Hp → (Int → Int → Int → Nat → Hp → Prop) → Prop} (hc : X.calm = true) (hg : Gl X "tuple") (hm : X.mg "tuple" = none) (he : PRgC X e te) (na : starEach [e] X.env = (false, eval e X.env) :: starEach [] X.env := by rfl) : PE X (.Call (.Name "tuple" p) [e] [] pos) (tTupRgC te) := by
  refine ⟨fun pins s σ H Q I h => ?_⟩
  refine Call_ (ld_blt I hg hm boot_tuple (PyProof.Rows.callWith_type1 (args_cons (thn (he pins s σ H _ I h) fun x s1 ⟨r, a, b, c, n, t, u, v, H1, ex, hr, I1, ok, hl, q⟩ => args_nil ?_) na) na))
  subst ex
  obtain ⟨c0, c1, c2, c3⟩ := ok
  refine call_tuple_range (n := n) (I1.ok.hd hc) hr c2 c3 hl fun h' tk acc hk hi => ?_
  have I2 : Inv X pins σ H1 { s1 with heap := h', toks := tk } := I1.kept hk
  refine ⟨.ref h'.objs.size, upd H1 h'.objs.size (.tup (rgVC a c n)), I2.laid (t' := tk) (fun c o e => Heap.get?_push_of_some _ e) (Nat.le_refl _) (show ObjOk X.prog X.w _ _ _ (.tup (rgVC a c n)) from ⟨?_, acc.toList, vals_rgC hi, ?_⟩), rfl, q _ (I2.hok.fresh (Nat.le_refl _))⟩
  · rw [rgVC, List.length_map, List.length_range, sizeLine_eq]; omega
  · rw [Array.toArray_toList]; exact IsTup.new _ _
def wTupR3 (u v w : WE) : WE := fun st Q => u st fun d1 _ => v st fun d2 _ => w st fun d3 _ => match d1, d2, d3 with
  | .int i, .int j, .int k => ∃ n, RgC i j k n ∧ n ≤ 2 ^ 24 ∧ Q (.tuple (rngs i k n)) (.o 0)
  | _, _, _ => False
theorem te_tupR3 (hc : X.calm = true) (ha : TrE X ea u) (hb : TrE X eb v) (hcc : TrE X ec w) (hgr : Gl X "range") (hmr : X.mg "range" = none) (hg : Gl X "tuple") (hm : X.mg "tuple" = none)
    (na : starEach [ea, eb, ec] X.env = (false, eval ea X.env) :: starEach [eb, ec] X.env := by rfl) (nb : starEach [eb, ec] X.env = (false, eval eb X.env) :: starEach [ec] X.env := by rfl) (nc : starEach [ec] X.env = (false, eval ec X.env) :: starEach [] X.env := by rfl)
    (hp : (backTo pos2 (starEach [eb, ec] X.env)).any (·.1) = false := by rfl)
    (nr : starEach [.Call (.Name "range" p2) [ea, eb, ec] [] pos2] X.env = (false, eval (.Call (.Name "range" p2) [ea, eb, ec] [] pos2) X.env) :: starEach [] X.env := by rfl) :
    TrE X (.Call (.Name "tuple" p) [.Call (.Name "range" p2) [ea, eb, ec] [] pos2] [] pos) (wTupR3 u v w) := by
  obtain ⟨t1, p1, s1⟩ := ha.run
  obtain ⟨t2, p2', s2⟩ := hb.run
  obtain ⟨t3, p3, s3⟩ := hcc.run
  refine ⟨_, pe_tupRgC hc hg hm (prg_C hgr hmr p1 p2' p3 na nb nc hp) nr, ?_⟩
  intro B F0 H0 F H σ st Q Q' R hw k
  refine s1 B F0 H0 F H σ st _ _ R hw fun x F1 H1 d1 m1 f1 x1 r1 n1 hq => s2 B F0 H0 F1 H1 σ st _ _ (R.go x1) hq fun y F2 H2 d2 m2 f2 x2 r2 n2 hq => s3 B F0 H0 F2 H2 σ st _ _ (R.go (x1.trans x2)) hq fun z F3 H3 d3 m3 f3 x3 r3 n3 hq => ?_
  split at hq
  · have h1 := (r1.ext (x2.trans x3)).read x3.wf
    have h2 := (r2.ext x3).read x3.wf
    have h3 := r3.read x3.wf
    cases h1
    cases h2
    cases h3
    obtain ⟨n, ok, hl, hq⟩ := hq
    refine ⟨_, _, _, n, rfl, rfl, rfl, ok, hl, fun q nq => ?_⟩
    obtain ⟨y1, y2⟩ := newT ((x1.trans x2).trans x3) nq (rpAll_rgC _ _ _)
    exact k _ _ _ _ _ [] y1 y2 (fun _ h => by simp at h) hq
  · exact hq.elim
variable {st : AS} {Q : QE} {QQ : QI} {md : Md} {x y z : Int}
def rcK (Q : QI) (d d2 d3 : PyData) (_ : Md) : Prop := match d, d2, d3 with
  | .int i, .int j, .int k => ∃ n, RgC i j k n ∧ Q (rngs i k n) (.o 0)
  | _, _, _ => False
theorem r_rngC : wRngC u v w st QQ = u st fun d _ => v st fun d2 _ => w st (rcK QQ d d2) := rfl
theorem r_rcK : rcK QQ (.int x) (.int y) (.int z) md = ∃ n, RgC x y z n ∧ QQ (rngs x z n) (.o 0) := rfl
def t3K (Q : QE) (d d2 d3 : PyData) (_ : Md) : Prop := match d, d2, d3 with
  | .int i, .int j, .int k => ∃ n, RgC i j k n ∧ n ≤ 2 ^ 24 ∧ Q (.tuple (rngs i k n)) (.o 0)
  | _, _, _ => False
theorem r_tupR3 : wTupR3 u v w st Q = u st fun d _ => v st fun d2 _ => w st (t3K Q d d2) := rfl
theorem r_t3K : t3K Q (.int x) (.int y) (.int z) md = ∃ n, RgC x y z n ∧ n ≤ 2 ^ 24 ∧ Q (.tuple (rngs x z n)) (.o 0) := rfl
end
end AL

namespace AL
open PySem PySem.Spec PyProof.Rows L2
section
variable {X : Cx} {e1 e2 e3 e4 : Expr} {u v w x : WE} {pos : Pos}
theorem pt_chain3 {a b c d : Expr} {ta tb tc td : TE} {op op' op'' : CmpOp} {r r' r'' : R2} (ho : OpR X (compareOp op) r) (ho' : OpR X (compareOp op') r') (ho'' : OpR X (compareOp op'') r'') (ha : PE X a ta) (hb : PE X b tb) (hc : PE X c tc) (hd : PE X d td)
    (hm : lastMarks [op, op', op''] [b, c, d] = false := by with_unfolding_all rfl) : PT X (.Compare a [op, op', op''] [b, c, d] pos) (tTest (tChain3 r r' r'' ta tb tc td)) := by
  refine ⟨fun pins s σ H Q I h => ?_⟩
  refine isTrue_chain (thn (ha.run pins s σ H _ I h) fun v s1 ⟨x, H1, I1, r1, q1⟩ => test_link (thn (hb.run pins s1 σ H1 _ I1 q1) fun u s2 ⟨y, H2, I2, r2, q2⟩ =>
    thn (ho pins s2 σ H2 x y v u _ I2 r1 r2 q2) fun d s3 ⟨z, H3, I3, r3, k, e, q3⟩ => ?_)) hm
  subst e
  cases r3
  refine wpAny_truthy_bool ?_
  cases k with
  | false =>
    obtain ⟨k', e', q'⟩ := q3
    cases e'
    exact ite_ff ⟨H3, I3, q'⟩
  | true =>
    refine ite_tt (test_link (thn (hc.run pins s3 σ H3 _ I3 q3) fun w' s4 ⟨z', H4, I4, r4, q4⟩ => thn (ho' pins s4 σ H4 y z' u w' _ I4 r2 r4 q4) fun d' s5 ⟨z2, H5, I5, r5, k2, e2, q5⟩ => ?_))
    subst e2
    cases r5
    refine wpAny_truthy_bool ?_
    cases k2 with
    | false =>
      obtain ⟨k', e', q'⟩ := q5
      cases e'
      exact ite_ff ⟨H5, I5, q'⟩
    | true =>
      refine ite_tt (test_last (thn (hd.run pins s5 σ H5 _ I5 q5) fun q' s6 ⟨z3, H6, I6, r6, q6⟩ => thn (ho'' pins s6 σ H6 z' z3 w' q' _ I6 r4 r6 q6) fun d' s7 ⟨z4, H7, I7, r7, k3, e3, q7⟩ => ?_))
      subst e3
      cases r7
      exact wpAny_truthy_bool ⟨H7, I7, q7⟩
theorem chn3S {g g' g'' : Int → Int → Bool} {t1 t2 t3 t4 : TE} (s1 : ∀ B F0 H0 F H σ st Q (Q' : VK), SR X.K B F0 H0 F H σ st → u st Q → (∀ v F' H' d md fp, Ext X.K B F H F' H' → TR X.K B F' H' v d md fp → (∀ a ∈ fp, H a = none) → Q d md → Q' v H') → t1 σ H Q')
    (s2 : ∀ B F0 H0 F H σ st Q (Q' : VK), SR X.K B F0 H0 F H σ st → v st Q → (∀ v F' H' d md fp, Ext X.K B F H F' H' → TR X.K B F' H' v d md fp → (∀ a ∈ fp, H a = none) → Q d md → Q' v H') → t2 σ H Q') (s3 : ∀ B F0 H0 F H σ st Q (Q' : VK), SR X.K B F0 H0 F H σ st → w st Q → (∀ v F' H' d md fp, Ext X.K B F H F' H' → TR X.K B F' H' v d md fp → (∀ a ∈ fp, H a = none) → Q d md → Q' v H') → t3 σ H Q') (s4 : ∀ B F0 H0 F H σ st Q (Q' : VK), SR X.K B F0 H0 F H σ st → x st Q → (∀ v F' H' d md fp, Ext X.K B F H F' H' → TR X.K B F' H' v d md fp → (∀ a ∈ fp, H a = none) → Q d md → Q' v H') → t4 σ H Q') :
    ∀ B F0 H0 F H σ st Q (Q' : VK), SR X.K B F0 H0 F H σ st → wChn3 g g' g'' u v w x st Q → (∀ v F' H' d md fp, Ext X.K B F H F' H' → TR X.K B F' H' v d md fp → (∀ a ∈ fp, H a = none) → Q d md → Q' v H') →
      tChain3 (rI0 fun i j => .bl (g i j)) (rI0 fun i j => .bl (g' i j)) (rI0 fun i j => .bl (g'' i j)) t1 t2 t3 t4 σ H Q' := by
  intro B F0 H0 F H σ st Q Q' R hw k
  refine run2 s1 s2 R hw fun x y F2 H2 d1 m1 d2 m2 f1 f2 ex r1 r2 n1 n2 dj hq => ?_
  split at hq
  · rename_i i j
    have h1 := r1.read ex.wf
    have h2 := r2.read ex.wf
    cases h1
    cases h2
    refine ⟨i, j, rfl, rfl, g i j, rfl, ?_⟩
    split at hq
    · rename_i hg
      rw [hg]
      refine iteT (s3 B F0 H0 F2 H2 σ st _ _ (R.go ex) hq fun z F3 H3 d3 m3 f3 x3 r3 n3 hq3 => ?_)
      split at hq3
      · rename_i kk
        have h3 := r3.read x3.wf
        cases h3
        refine ⟨_, _, rfl, rfl, g' j kk, rfl, ?_⟩
        have ex3 := ex.trans x3
        split at hq3
        · rename_i hg2
          rw [hg2]
          refine iteT (s4 B F0 H0 F3 H3 σ st _ _ (R.go ex3) hq3 fun z F4 H4 d4 m4 f4 x4 r4 n4 hq4 => ?_)
          split at hq4
          · have h4 := r4.read x4.wf
            cases h4
            exact ⟨_, _, rfl, rfl, k _ F4 H4 _ (.o 0) [] (ex3.trans x4) (.of (.bl _)) (fun _ h => by simp at h) hq4⟩
          · exact hq4.elim
        · rename_i hg2
          rw [hg2]
          exact iteF (k _ F3 H3 _ (.o 0) [] ex3 (.of (.bl _)) (fun _ h => by simp at h) hq3)
      · exact hq3.elim
    · rename_i hg
      rw [hg]
      exact iteF (k _ F2 H2 _ (.o 0) [] ex (.of (.bl _)) (fun _ h => by simp at h) hq)
  · exact hq.elim
theorem tt_chain3 {op op' op'' : CmpOp} {g g' g'' : Int → Int → Bool} (c1 : CI X op g) (c2 : CI X op' g') (c3 : CI X op'' g'') (h1 : TrE X e1 u) (h2 : TrE X e2 v) (h3 : TrE X e3 w) (h4 : TrE X e4 x) (hm : lastMarks [op, op', op''] [e2, e3, e4] = false := by with_unfolding_all rfl) :
    TrT X (.Compare e1 [op, op', op''] [e2, e3, e4] pos) (wTst (wChn3 g g' g'' u v w x)) := by
  obtain ⟨t1, p1, s1⟩ := h1.run
  obtain ⟨t2, p2, s2⟩ := h2.run
  obtain ⟨t3, p3, s3⟩ := h3.run
  obtain ⟨t4, p4, s4⟩ := h4.run
  exact ⟨_, pt_chain3 c1 c2 c3 p1 p2 p3 p4 hm, tstB (chn3S s1 s2 s3 s4)⟩
theorem swd_true {kx vx : Expr} {gs : List Comprehension} {scope : Scope} {pos py : Pos} {y : Str} {l : Nat} {env : Env} (hk : env.scope.kind = .function) (hy : env.scope.names.lookup y = some .local) (hl : (py.line == pos.line) = true)
    (ha : (scope.names.any fun (n, k) => n == y && (k == .local || k == .cell)) = false) : swapsWith (.DictComp kx vx gs scope pos) (some (.Name y py)) l env = pure true := by
  have ky : env.kindOf y = some .local := hy
  have hb : env.blockKind = .function := by unfold Env.blockKind; rw [hk]; rfl
  unfold swapsWith
  simp only [hb, ky, ha, Expr.pos, hl]
  rfl
end
end AL

namespace AL
open PySem PySem.Spec PyProof.Rows L2

def aPad3 (g : Str → Int → Nat → Str) (d1 d2 d3 : PyData) (Q : QE) : Prop := match d1, d2, d3 with
  | .str x, .int i, .str f => PadOk i = true ∧ f.length = 1 ∧ Q (.str (g x i (f.cps.getD 0 0))) (.o 0)
  | _, _, _ => False
def rPad3 (g : Str → Int → Nat → Str) : V → List V → Hp → VK → Prop := fun x xs H Q => ∃ (a : Str) (i : Int) (f : Str), x = .str a ∧ xs = [.int i, .str f] ∧ PadOk i = true ∧ f.length = 1 ∧ Q (.str (g a i (f.cps.getD 0 0))) H
section
variable {X : Cx} {o e e2 : Expr} {u v w : WE} {apos pos : Pos} {g : Str → Int → Nat → Str}
theorem mt_pad3 {id : String} (rule : ∀ (a f : Str) (i : Int) (t u z : Tok) (s : Shared) (Q : Value → Shared → Prop), PadOk i = true → f.length = 1 → (∀ (v : Value) (k : Nat), RelV (.str (g a i (f.cps.getD 0 0))) v → Q v { s with toks := k }) →
    wpAny (model X.prog X.w) X.A (call (.builtin id) [.str a t, .int i u, .str f z]) Q X.xe s) : MtR X id (rPad3 g) := by
  intro pins s σ H x xs v us Q I rx rs h
  obtain ⟨a, i, f, rfl, rfl, hp, hf, h⟩ := h
  obtain ⟨t, rfl⟩ := rx
  cases rs with
  | cons r1 rs =>
    cases rs with
    | cons r2 rs =>
      cases rs
      obtain ⟨u, rfl⟩ := r1
      obtain ⟨z, rfl⟩ := r2
      exact rule a f i t u z s _ hp hf fun v k r => ⟨_, H, I.tok k, r, h⟩
theorem mt_rjust3 : MtR X "str.rjust" (rPad3 Txt.rjustF) := mt_pad3 fun _ _ _ _ _ _ _ _ hp hf h => rjust_fill hp hf fun t' k => h _ k ⟨t', rfl⟩
theorem mt_ljust3 : MtR X "str.ljust" (rPad3 Txt.ljustF) := mt_pad3 fun _ _ _ _ _ _ _ _ hp hf h => ljust_fill hp hf fun t' k => h _ k ⟨t', rfl⟩
theorem te_pad3 {name : Str} (h1 : TrE X o u) (h2 : TrE X e v) (h3 : TrE X e2 w)
    (hm : ∀ {to : TE} {t : TA}, PE X o to → PA X [e, e2] t → PE X (.Call (.Attribute o name apos) [e, e2] [] pos) (tBM X.K "str" (rPad3 g) to t))
    (hst : starEach [e, e2] X.env = (false, eval e X.env) :: starEach [e2] X.env := by rfl) (hst2 : starEach [e2] X.env = (false, eval e2 X.env) :: starEach [] X.env := by rfl) :
    TrE X (.Call (.Attribute o name apos) [e, e2] [] pos) (wM2 (aPad3 g) u v w) := by
  obtain ⟨t1, p1, s1⟩ := h1.run
  obtain ⟨t2, p2, s2⟩ := h2.run
  obtain ⟨t3, p3, s3⟩ := h3.run
  refine ⟨_, hm p1 (pa_cons p2 (pa_cons p3 pa_nil hst2) hst), fun B F0 H0 F H σ st Q Q' R hw k => s1 B F0 H0 F H σ st _ _ R hw fun x F1 H1 d md f x1 r1 n1 hq => ?_⟩
  obtain ⟨⟨z, rfl⟩, hq⟩ := hq
  have hz := r1.read x1.wf
  cases hz
  refine ⟨rfl, s2 B F0 H0 F1 H1 σ st _ _ (R.go x1) hq fun y F2 H2 d2 m2 f2 x2 r2 n2 hq2 => s3 B F0 H0 F2 H2 σ st _ _ (R.go (x1.trans x2)) hq2 fun y3 F3 H3 d3 m3 f3 x3 r3 n3 hq3 => ?_⟩
  unfold aPad3 at hq3
  split at hq3
  · rename_i h1
    cases h1
    have hy := (r2.ext x3).read x3.wf
    cases hy
    have hy3 := r3.read x3.wf
    cases hy3
    exact ⟨_, _, _, rfl, rfl, hq3.1, hq3.2.1, k _ F3 H3 _ (.o 0) [] ((x1.trans x2).trans x3) (.of (.str _)) (fun _ h => by simp at h) hq3.2.2⟩
  · exact hq3.elim
end
theorem r_pad3 {g : Str → Int → Nat → Str} {x f : Str} {i : Int} {Q : QE} : aPad3 g (.str x) (.int i) (.str f) Q = (PadOk i = true ∧ f.length = 1 ∧ Q (.str (g x i (f.cps.getD 0 0))) (.o 0)) := rfl
end AL

namespace AL
open PySem PySem.Spec PyProof.Rows L2

def ItM (K : PySem.W.Frag) (a b : Addr) (m n : Nat) : It :=
  ⟨fun i H => ∃ (xs ys : List V) (x y : V), SqL K H a xs ∧ SqT K H b ys ∧ xs.length = m ∧ ys.length = n ∧ xs[i]? = some x ∧ ys[i]? = some y,
    fun i H v H' => ∃ T x y, v = .ref T ∧ H T = none ∧ H' = upd H T (.tup [x, y]) ∧ (∀ xs, SqL K H a xs → xs[i]? = some x) ∧ ∀ ys, SqT K H b ys → ys[i]? = some y,
    fun i H => ∃ xs ys : List V, SqL K H a xs ∧ SqT K H b ys ∧ xs.length = m ∧ ys.length = n ∧ (m ≤ i ∨ n ≤ i)⟩
theorem five {z TI TO i1 i2 c : Addr} (h : c ∈ [z, TI, TO, i1, i2]) : c = z ∨ c = TI ∨ c = TO ∨ c = i1 ∨ c = i2 := by simpa using h
theorem turn_M {P : Program} {w : World} {K : PySem.W.Frag} {elts : List Expr} {kk : Nat} {tpos : Pos} {a b z TI TO i1 i2 : Addr} {m n : Nat} (S : ZipSep2 z TI TO i1 i2 [i1, a] [i2, b]) (ha : a ≠ i1) (hb : b ≠ i2) :
    Turn P w K (.Tuple elts kk tpos) (ItM K a b m n) [z, TI, TO, i1, i2] z (fun i h => (i ≤ m ∧ i ≤ n) ∧ IsZip h z TI TO .none ∧ IsTupOf2 h TI (.ref i1) (.ref i2) ∧ (∃ x y, IsTupOf2 h TO x y) ∧ h.IsListIter i1 a i ∧ h.IsTupleIter i2 b i) where
  mem := by simp
  obj := fun i h st c hc => by
    obtain ⟨_, hz, hTI, ⟨x, y, hTO⟩, ⟨o1, e1, _, d1⟩, ⟨o2, e2, _, d2⟩⟩ := st
    rcases five hc with q | q | q | q | q
    · rw [q]; exact ⟨_, hz, fun v q => nomatch q⟩
    · rw [q]; exact ⟨_, hTI, fun v q => nomatch q⟩
    · rw [q]; exact ⟨_, hTO, fun v q => nomatch q⟩
    · rw [q]; exact ⟨o1, e1, fun v q => by rw [d1] at q; cases q⟩
    · rw [q]; exact ⟨o2, e2, fun v q => by rw [d2] at q; cases q⟩
  keep := fun i h h' st k => by
    obtain ⟨hi, hz, hTI, ⟨x, y, hTO⟩, h1, h2⟩ := st
    exact ⟨hi, k z (by simp) _ hz, k TI (by simp) _ hTI, ⟨x, y, k TO (by simp) _ hTO⟩, h1.at fun o q => k i1 (by simp) o q, h2.at fun o q => k i2 (by simp) o q⟩
  item := by
    intro X hP hw hK hc i pins s σ H E I hf st hg
    subst hP hw hK
    obtain ⟨hi, hz, hTI, ⟨x0, y0, hTO⟩, h1, h2⟩ := st
    obtain ⟨xs, ys, x, y, hqx, hqy, lx, ly, hx, hy⟩ := hg
    obtain ⟨its, rv, p, _⟩ := I.list hqx
    obtain ⟨its2, rv2, p2, _⟩ := I.tuple hqy
    have n1 := rv.length
    have n2 := rv2.length
    have hxl := (List.getElem?_eq_some_iff.mp hx).1
    have hyl := (List.getElem?_eq_some_iff.mp hy).1
    obtain ⟨u, hu, ru⟩ := rv.get hx
    obtain ⟨u2, hu2, ru2⟩ := rv2.get hy
    have hzl : z < s.heap.objs.size := Heap.lt_size hz
    have hh : X.A.in1.handled = none := I.ok.hd hc
    refine wpAny_pyNext_zipD2_item S (Draws.list hh i1 a ha its.toArray) (Draws.tuple hh i2 b hb its2.toArray) hz hTI hTO ⟨h1, p.isList⟩ ⟨h2, show s.heap.IsTuple b its2.toArray from p2⟩ (by simp; omega) (by simp; omega) fun x1 x2 h' tk e1 e2 z' TO' d1 d2 hT hsz hk => ?_
    obtain rfl : x1 = u := by
      have : its.toArray[i]? = some u := by simpa using hu
      rw [this] at e1; exact (Option.some.inj e1).symm
    obtain rfl : x2 = u2 := by
      have : its2.toArray[i]? = some u2 := by simpa using hu2
      rw [this] at e2; exact (Option.some.inj e2).symm
    refine ⟨_, rfl, wpAny_letOwnedTupleGo_zip (s := { s with heap := h', toks := tk }) z' fun h'' z'' sb => ?_⟩
    have hT2 : h''.get? s.heap.objs.size = some { cls := .type "tuple", data := .seq #[x1, x2] } := (sb.2 _ (Nat.ne_of_gt hzl)).trans hT
    have new : ObjOk X.prog X.w (upd H s.heap.objs.size (.tup [x, y])) h'' s.heap.objs.size (.tup [x, y]) :=
      ⟨by show 2 ≤ sizeLine; decide, [x1, x2], .cons ru (.cons ru2 .nil), ⟨_, hT2, rfl, _, rfl⟩⟩
    have kept : ∀ c o, ¬ c ∈ [z, TI, TO, i1, i2] → s.heap.get? c = some o → h''.get? c = some o := fun c o hb q =>
      (sb.2 c (fun q' => hb (by simp [q']))).trans (hk c o (fun q' => hb (by simp [q'])) (fun q' => hb (by simp [q'])) (fun q' => hb (by simp [q'])) (fun q' => hb (by simp [q'])) q)
    have I1 : Inv X pins σ (upd H s.heap.objs.size (.tup [x, y])) { s with heap := h'', toks := tk } :=
      I.turnedNew (t' := tk) (ch := [z, TI, TO, i1, i2]) kept hf (Nat.le_refl _) new
    refine ⟨.ref s.heap.objs.size, _, I1, rfl, ⟨_, x, y, rfl, I.hok.fresh (Nat.le_refl _), rfl, fun l hl => by rw [I.list_inj hl hqx]; exact hx, fun l hl => by rw [I.tuple_inj hl hqy]; exact hy⟩, ⟨⟨by omega, by omega⟩, z'', ?_, ⟨x1, x2, ?_⟩, ?_, ?_⟩, fun c hcm => ?_⟩
    · exact (sb.2 _ S.TIz).trans (hk _ _ S.TIz S.TITO S.TIi1 S.TIi2 hTI)
    · exact (sb.2 _ S.TOz).trans TO'
    · exact d1.1.at fun o q => (sb.2 _ S.zi1.symm).trans q
    · exact d2.1.at fun o q => (sb.2 _ S.zi2.symm).trans q
    · have hlt : c < s.heap.objs.size := by
        rcases five hcm with q | q | q | q | q
        · rw [q]; exact hzl
        · rw [q]; exact Heap.lt_size hTI
        · rw [q]; exact Heap.lt_size hTO
        · rw [q]; obtain ⟨_, e1, _⟩ := h1; exact Heap.lt_size e1
        · rw [q]; obtain ⟨_, e2, _⟩ := h2; exact Heap.lt_size e2
      rw [upd_ne (Nat.ne_of_lt hlt)]
      exact (hf c hcm).1
  done := by
    intro X hP hw hK hc i pins s σ H E I hf st hg
    subst hP hw hK
    obtain ⟨hi, hz, hTI, ⟨x0, y0, hTO⟩, h1, h2⟩ := st
    obtain ⟨xs, ys, hqx, hqy, lx, ly, hend⟩ := hg
    obtain ⟨its, rv, p, _⟩ := I.list hqx
    obtain ⟨its2, rv2, p2, _⟩ := I.tuple hqy
    have n1 := rv.length
    have n2 := rv2.length
    have hh : X.A.in1.handled = none := I.ok.hd hc
    refine wpAny_pyNext_zipD2_end S (Draws.list hh i1 a ha its.toArray) (Draws.tuple hh i2 b hb its2.toArray) hz hTI hTO ⟨h1, p.isList⟩ ⟨h2, show s.heap.IsTuple b its2.toArray from p2⟩ (by simp; omega) (by simp; omega) (by simp; omega) fun h' tk hk => ?_
    exact ⟨rfl, I.turnedL (t' := tk) (ch := [z, TI, TO, i1, i2]) (fun c o hb q =>
      hk c o (fun q' => hb (by simp [q'])) (fun q' => hb (by simp [q'])) (fun q' => hb (by simp [q'])) (fun q' => hb (by simp [q'])) q) hf⟩
  self := fun A i s Q E st h => wpAny_pyIter_zip st.2.1 h
def iZipM (K : PySem.W.Frag) (ta : TA) : TI := fun σ H R => ta σ H fun vs H1 => ∃ a b xs ys, vs = [.ref a, .ref b] ∧ SqL K H1 a xs ∧ SqT K H1 b ys ∧ R (ItM K a b xs.length ys.length) H1
theorem pi_zipM {X : Cx} {e e2 : Expr} {ta : TA} {p pos tpos : Pos} {elts : List Expr} {kk : Nat} (hg : Gl X "zip") (hm : X.mg "zip" = none) (ha : PA X [e, e2] ta)
    (hs : starEach [e, e2] X.env = (false, eval e X.env) :: starEach [e2] X.env := by rfl) (hpl : (backTo pos (starEach [e2] X.env)).any (·.1) = false := by rfl) :
    PI X (.Tuple elts kk tpos) (.Call (.Name "zip" p) [e, e2] [] pos) (iZipM X.K ta) := by
  refine ⟨fun pins s σ H R I h => ?_⟩
  refine Call_ (ld_blt I hg hm PyProof.Rows.boot_zip (PyProof.Rows.callWith_type1 (thn (ha.run pos pins s σ H _ I h) fun us s1 ⟨vs, H1, I1, r1, q1⟩ => ?_) hs hpl))
  obtain ⟨a, b, xs, ys, ex, hqx, hqy, q⟩ := q1
  subst ex
  cases r1 with
  | cons r rr =>
    cases rr with
    | cons r' rr =>
      cases rr
      cases r
      cases r'
      obtain ⟨its, rv, p1, _⟩ := I1.list hqx
      obtain ⟨its2, rv2, p2, _⟩ := I1.tuple hqy
      obtain ⟨o2, ho2, _⟩ := id p2
      have la : a < s1.heap.objs.size := p1.lt
      have lb : b < s1.heap.objs.size := Heap.lt_size ho2
      refine zip_begins2 (begins_list a its.toArray) (begins_tuple b its2.toArray) p1.isList (show s1.heap.IsTuple b its2.toArray from p2) fun h' hz hTI hTO h1 h2 hsz hk => wpAny_pyIter_zip hz ?_
      have I2 : Inv X pins σ H1 { s1 with heap := h' } := I1.kept (t' := s1.toks) hk
      have S := zip_sep2 (N := s1.heap.objs.size) (fp1 := [a]) (fp2 := [b]) (fun c hc => by rw [List.mem_singleton.mp hc]; exact la) (fun c hc => by rw [List.mem_singleton.mp hc]; exact lb)
      refine ⟨s1.heap.objs.size + 4, [s1.heap.objs.size + 4, s1.heap.objs.size + 2, s1.heap.objs.size + 3, s1.heap.objs.size, s1.heap.objs.size + 1], _, _, H1, rfl, I2, turn_M S (Nat.ne_of_lt la) (Nat.ne_of_lt (Nat.lt_succ_of_lt lb)), ⟨⟨Nat.zero_le _, Nat.zero_le _⟩, hz, hTI, ⟨_, _, hTO⟩, ⟨_, h1, rfl, rfl⟩, ⟨_, h2, rfl, rfl⟩⟩, fun c hcm => ?_, q⟩
      have hle : s1.heap.objs.size ≤ c := by
        rcases five hcm with z | z | z | z | z <;> rw [z]
        · exact Nat.le_add_right _ _
        · exact Nat.le_add_right _ _
        · exact Nat.le_add_right _ _
        · exact Nat.le_refl _
        · exact Nat.le_add_right _ _
      exact I1.fpOk hle (I1.hok.fresh hle)
theorem itOk_M {K : PySem.W.Frag} {G : Hp} {a b : Addr} {vs us : List V} {ds es : List PyData} (h : G a = some (.lst vs)) (hd : RpAll K G vs ds) (h' : SqT K G b us) (hd' : RpAll K G us es) : ItOk K G (ItM K a b vs.length us.length) (zipD ds es) := by
  intro i H s
  have hl := SqL.of (K := K) (s _ _ h)
  have hl' := rp_mono.seqT s h'
  have q1 := rpAll_len hd
  have q2 := rpAll_len hd'
  rw [zipD_len]
  refine ⟨fun hi => ?_, fun hi => ⟨vs, us, hl, hl', rfl, rfl, by omega⟩⟩
  have g1 : ds[i]? = some ds[i] := List.getElem?_eq_getElem (by omega)
  have g2 : es[i]? = some es[i] := List.getElem?_eq_getElem (by omega)
  obtain ⟨v, e1, h1⟩ := rpAll_get hd g1
  obtain ⟨w, e2, h2⟩ := rpAll_get hd' g2
  refine ⟨⟨vs, us, v, w, hl, hl', rfl, rfl, e1, e2⟩, fun x H' hy => ?_⟩
  obtain ⟨T, y, z, e3, e4, e5, e6, e7⟩ := hy
  have k1 := e6 vs hl
  have k2 := e7 us hl'
  rw [e1] at k1
  rw [e2] at k2
  cases k1
  cases k2
  exact ⟨_, zipD_get _ _ _ _ _ g1 g2, .inr ⟨T, _, _, e4, e5, e3, rfl, .cons h1 (.cons h2 .nil)⟩⟩
def wZipM (u v : WE) : WI := fun st Q => u st fun d m => v st fun d2 m2 => match d, d2 with
  | .list ds, .tuple es => Q (zipD ds es) (jnI m m2)
  | _, _ => False
section
variable {X : Cx} {e1 e2 : Expr} {u v : WE} {p pos : Pos}
theorem ti_zipM {elts : List Expr} {kk : Nat} {tpos : Pos} (h : TrE X e1 u) (h2 : TrE X e2 v) (hg : Gl X "zip") (hm : X.mg "zip" = none) (hst : starEach [e1, e2] X.env = (false, eval e1 X.env) :: starEach [e2] X.env := by rfl) (hst2 : starEach [e2] X.env = (false, eval e2 X.env) :: starEach [] X.env := by rfl)
    (hpl : (backTo pos (starEach [e2] X.env)).any (·.1) = false := by rfl) : TrI X (.Tuple elts kk tpos) (.Call (.Name "zip" p) [e1, e2] [] pos) (wZipM u v) := by
  obtain ⟨t, pp, s⟩ := h.run
  obtain ⟨t2, pp2, s2⟩ := h2.run
  refine ⟨_, pi_zipM hg hm (pa_cons pp (pa_cons pp2 pa_nil hst2) hst) hst hpl, fun B F0 H0 F H σ st Q Q' R hw k => run2 (Q' := fun x y H2 => ∃ a b xs ys, [x, y] = [V.ref a, V.ref b] ∧ SqL X.K H2 a xs ∧ SqT X.K H2 b ys ∧ Q' (ItM X.K a b xs.length ys.length) H2) s s2 R hw fun x y F2 H2 d1 m1 d2 m2 f1 f2 ex r1 r2 n1 n2 dj hq => ?_⟩
  split at hq
  · rename_i ds es
    by_cases hb : jnI m1 m2 = .o 0
    · cases m1 with
      | b => exact absurd hb (by simp [jnI])
      | o m1 =>
        cases m2 with
        | b => exact absurd hb (by simp [jnI])
        | o m2 =>
          obtain ⟨x2, s3, q2⟩ := r1.give ex n1
          obtain ⟨b, us, e2', h2', q3, _⟩ := r2.tuple0
          cases q2 with
          | lst h3 h4 => exact ⟨_, _, _, _, by rw [e2'], SqL.of (x2.wf.fh _ _ h3), rp_mono.seqT ex.wf.fh h2', k _ _ H2 _ (.o 0) x2 (itOk_M h3 h4 (rp_mono.seqT s3 h2') (rpAll_mono0 s3 q3)) hq⟩
    · have hb' : jnI m1 m2 = .b := by cases m1 <;> cases m2 <;> first | rfl | exact absurd rfl hb
      rw [hb'] at hq
      obtain ⟨a, vs, e1, h1, h1', q1⟩ := r1.srcL ex.wf
      obtain ⟨b, us, e2, h2, h2', q2⟩ := r2.srcT ex.wf
      exact ⟨a, b, vs, us, by rw [e1, e2], SqL.of h1, h2, k _ F2 H2 _ .b ex (itOk_M h1' q1 h2' q2) hq⟩
  · exact hq.elim
end
def zmK (Q : QI) (d : PyData) (m : Md) (d2 : PyData) (m2 : Md) : Prop := match d, d2 with
  | .list ds, .tuple es => Q (zipD ds es) (jnI m m2)
  | _, _ => False
theorem r_zipM {u v : WE} {st : AS} {QQ : QI} : wZipM u v st QQ = u st fun d m => v st (zmK QQ d m) := rfl
theorem r_zmL {QQ : QI} {ds es : List PyData} {m n : Nat} : zmK QQ (.list ds) (.o m) (.tuple es) (.o n) = QQ (zipD ds es) (.o 0) := rfl
theorem r_zmLb {QQ : QI} {ds es : List PyData} {md : Md} : zmK QQ (.list ds) .b (.tuple es) md = QQ (zipD ds es) .b := rfl
theorem r_zmLc {QQ : QI} {ds es : List PyData} {m : Nat} : zmK QQ (.list ds) (.o m) (.tuple es) .b = QQ (zipD ds es) .b := rfl
end AL

namespace AL
open PySem PySem.Spec PyProof.Rows L2

def It3 (K : PySem.W.Frag) (a b c : Addr) (l m n : Nat) : It :=
  ⟨fun i H => ∃ (xs ys zs : List V) (x y z : V), SqL K H a xs ∧ SqL K H b ys ∧ SqL K H c zs ∧ xs.length = l ∧ ys.length = m ∧ zs.length = n ∧ xs[i]? = some x ∧ ys[i]? = some y ∧ zs[i]? = some z,
    fun i H v H' => ∃ T x y z, v = .ref T ∧ H T = none ∧ H' = upd H T (.tup [x, y, z]) ∧ (∀ xs, SqL K H a xs → xs[i]? = some x) ∧ (∀ ys, SqL K H b ys → ys[i]? = some y) ∧ ∀ zs, SqL K H c zs → zs[i]? = some z,
    fun i H => ∃ xs ys zs : List V, SqL K H a xs ∧ SqL K H b ys ∧ SqL K H c zs ∧ xs.length = l ∧ ys.length = m ∧ zs.length = n ∧ (l ≤ i ∨ m ≤ i ∨ n ≤ i)⟩
theorem six6 {z TI TO i1 i2 i3 c : Addr} (h : c ∈ [z, TI, TO, i1, i2, i3]) : c = z ∨ c = TI ∨ c = TO ∨ c = i1 ∨ c = i2 ∨ c = i3 := by simpa using h
theorem turn_3 {P : Program} {w : World} {K : PySem.W.Frag} {elts : List Expr} {kk : Nat} {tpos : Pos} {a b c z TI TO i1 i2 i3 : Addr} {l m n : Nat} (S : ZipSep3 z TI TO i1 i2 i3 [i1, a] [i2, b] [i3, c]) (ha : a ≠ i1) (hb : b ≠ i2) (hcc : c ≠ i3) :
    Turn P w K (.Tuple elts kk tpos) (It3 K a b c l m n) [z, TI, TO, i1, i2, i3] z (fun i h => (i ≤ l ∧ i ≤ m ∧ i ≤ n) ∧ IsZip h z TI TO .none ∧ IsTupOf3 h TI (.ref i1) (.ref i2) (.ref i3) ∧ (∃ x y t, IsTupOf3 h TO x y t) ∧ h.IsListIter i1 a i ∧ h.IsListIter i2 b i ∧ h.IsListIter i3 c i) where
  mem := by simp
  obj := fun i h st d hd => by
    obtain ⟨_, hz, hTI, ⟨x, y, t, hTO⟩, ⟨o1, e1, _, d1⟩, ⟨o2, e2, _, d2⟩, ⟨o3, e3, _, d3⟩⟩ := st
    rcases six6 hd with q | q | q | q | q | q
    · rw [q]; exact ⟨_, hz, fun v q => nomatch q⟩
    · rw [q]; exact ⟨_, hTI, fun v q => nomatch q⟩
    · rw [q]; exact ⟨_, hTO, fun v q => nomatch q⟩
    · rw [q]; exact ⟨o1, e1, fun v q => by rw [d1] at q; cases q⟩
    · rw [q]; exact ⟨o2, e2, fun v q => by rw [d2] at q; cases q⟩
    · rw [q]; exact ⟨o3, e3, fun v q => by rw [d3] at q; cases q⟩
  keep := fun i h h' st k => by
    obtain ⟨hi, hz, hTI, ⟨x, y, t, hTO⟩, h1, h2, h3⟩ := st
    exact ⟨hi, k z (by simp) _ hz, k TI (by simp) _ hTI, ⟨x, y, t, k TO (by simp) _ hTO⟩, h1.at fun o q => k i1 (by simp) o q, h2.at fun o q => k i2 (by simp) o q, h3.at fun o q => k i3 (by simp) o q⟩
  item := by
    intro X hP hw hK hc i pins s σ H E I hf st hg
    subst hP hw hK
    obtain ⟨hi, hz, hTI, ⟨x0, y0, t0, hTO⟩, h1, h2, h3⟩ := st
    obtain ⟨xs, ys, zs, x, y, t, hqx, hqy, hqz, lx, ly, lz, hx, hy, ht⟩ := hg
    obtain ⟨its, rv, p, _⟩ := I.list hqx
    obtain ⟨its2, rv2, p2, _⟩ := I.list hqy
    obtain ⟨its3, rv3, p3, _⟩ := I.list hqz
    have n1 := rv.length
    have n2 := rv2.length
    have n3 := rv3.length
    have hxl := (List.getElem?_eq_some_iff.mp hx).1
    have hyl := (List.getElem?_eq_some_iff.mp hy).1
    have htl := (List.getElem?_eq_some_iff.mp ht).1
    obtain ⟨u, hu, ru⟩ := rv.get hx
    obtain ⟨u2, hu2, ru2⟩ := rv2.get hy
    obtain ⟨u3, hu3, ru3⟩ := rv3.get ht
    have hzl : z < s.heap.objs.size := Heap.lt_size hz
    have hh : X.A.in1.handled = none := I.ok.hd hc
    refine wpAny_pyNext_zipD3_item S (Draws.list hh i1 a ha its.toArray) (Draws.list hh i2 b hb its2.toArray) (Draws.list hh i3 c hcc its3.toArray) hz hTI hTO ⟨h1, p.isList⟩ ⟨h2, p2.isList⟩ ⟨h3, p3.isList⟩ (by simp; omega) (by simp; omega) (by simp; omega) fun x1 x2 x3 h' tk e1 e2 e3 z' TO' d1 d2 d3 hT hsz hk => ?_
    obtain rfl : x1 = u := by
      have : its.toArray[i]? = some u := by simpa using hu
      rw [this] at e1; exact (Option.some.inj e1).symm
    obtain rfl : x2 = u2 := by
      have : its2.toArray[i]? = some u2 := by simpa using hu2
      rw [this] at e2; exact (Option.some.inj e2).symm
    obtain rfl : x3 = u3 := by
      have : its3.toArray[i]? = some u3 := by simpa using hu3
      rw [this] at e3; exact (Option.some.inj e3).symm
    refine ⟨_, rfl, wpAny_letOwnedTupleGo_zip (s := { s with heap := h', toks := tk }) z' fun h'' z'' sb => ?_⟩
    have hT2 : h''.get? s.heap.objs.size = some { cls := .type "tuple", data := .seq #[x1, x2, x3] } := (sb.2 _ (Nat.ne_of_gt hzl)).trans hT
    have new : ObjOk X.prog X.w (upd H s.heap.objs.size (.tup [x, y, t])) h'' s.heap.objs.size (.tup [x, y, t]) :=
      ⟨by show 3 ≤ sizeLine; decide, [x1, x2, x3], .cons ru (.cons ru2 (.cons ru3 .nil)), ⟨_, hT2, rfl, _, rfl⟩⟩
    have kept : ∀ d o, ¬ d ∈ [z, TI, TO, i1, i2, i3] → s.heap.get? d = some o → h''.get? d = some o := fun d o hb q =>
      (sb.2 d (fun q' => hb (by simp [q']))).trans (hk d o (fun q' => hb (by simp [q'])) (fun q' => hb (by simp [q'])) (fun q' => hb (by simp [q'])) (fun q' => hb (by simp [q'])) (fun q' => hb (by simp [q'])) q)
    have I1 : Inv X pins σ (upd H s.heap.objs.size (.tup [x, y, t])) { s with heap := h'', toks := tk } :=
      I.turnedNew (t' := tk) (ch := [z, TI, TO, i1, i2, i3]) kept hf (Nat.le_refl _) new
    refine ⟨.ref s.heap.objs.size, _, I1, rfl, ⟨_, x, y, t, rfl, I.hok.fresh (Nat.le_refl _), rfl, fun l hl => by rw [I.list_inj hl hqx]; exact hx, fun l hl => by rw [I.list_inj hl hqy]; exact hy, fun l hl => by rw [I.list_inj hl hqz]; exact ht⟩, ⟨⟨by omega, by omega, by omega⟩, z'', ?_, ⟨x1, x2, x3, ?_⟩, ?_, ?_, ?_⟩, fun d hdm => ?_⟩
    · exact (sb.2 _ S.TIz).trans (hk _ _ S.TIz S.TITO S.TIi1 S.TIi2 S.TIi3 hTI)
    · exact (sb.2 _ S.TOz).trans TO'
    · exact d1.1.at fun o q => (sb.2 _ S.zi1.symm).trans q
    · exact d2.1.at fun o q => (sb.2 _ S.zi2.symm).trans q
    · exact d3.1.at fun o q => (sb.2 _ S.zi3.symm).trans q
    · have hlt : d < s.heap.objs.size := by
        rcases six6 hdm with q | q | q | q | q | q
        · rw [q]; exact hzl
        · rw [q]; exact Heap.lt_size hTI
        · rw [q]; exact Heap.lt_size hTO
        · rw [q]; obtain ⟨_, e1, _⟩ := h1; exact Heap.lt_size e1
        · rw [q]; obtain ⟨_, e2, _⟩ := h2; exact Heap.lt_size e2
        · rw [q]; obtain ⟨_, e3, _⟩ := h3; exact Heap.lt_size e3
      rw [upd_ne (Nat.ne_of_lt hlt)]
      exact (hf d hdm).1
  done := by
    intro X hP hw hK hc i pins s σ H E I hf st hg
    subst hP hw hK
    obtain ⟨hi, hz, hTI, ⟨x0, y0, t0, hTO⟩, h1, h2, h3⟩ := st
    obtain ⟨xs, ys, zs, hqx, hqy, hqz, lx, ly, lz, hend⟩ := hg
    obtain ⟨its, rv, p, _⟩ := I.list hqx
    obtain ⟨its2, rv2, p2, _⟩ := I.list hqy
    obtain ⟨its3, rv3, p3, _⟩ := I.list hqz
    have n1 := rv.length
    have n2 := rv2.length
    have n3 := rv3.length
    have hh : X.A.in1.handled = none := I.ok.hd hc
    refine wpAny_pyNext_zipD3_end S (Draws.list hh i1 a ha its.toArray) (Draws.list hh i2 b hb its2.toArray) (Draws.list hh i3 c hcc its3.toArray) hz hTI hTO ⟨h1, p.isList⟩ ⟨h2, p2.isList⟩ ⟨h3, p3.isList⟩ (by simp; omega) (by simp; omega) (by simp; omega) (by simp; omega) fun h' tk hk => ?_
    exact ⟨rfl, I.turnedL (t' := tk) (ch := [z, TI, TO, i1, i2, i3]) (fun d o hb q =>
      hk d o (fun q' => hb (by simp [q'])) (fun q' => hb (by simp [q'])) (fun q' => hb (by simp [q'])) (fun q' => hb (by simp [q'])) (fun q' => hb (by simp [q'])) q) hf⟩
  self := fun A i s Q E st h => wpAny_pyIter_zip st.2.1 h
def iZip3 (K : PySem.W.Frag) (ta : TA) : TI := fun σ H R => ta σ H fun vs H1 => ∃ a b c xs ys zs, vs = [.ref a, .ref b, .ref c] ∧ SqL K H1 a xs ∧ SqL K H1 b ys ∧ SqL K H1 c zs ∧ R (It3 K a b c xs.length ys.length zs.length) H1
theorem pi_zip3 {X : Cx} {e e2 e3 : Expr} {ta : TA} {p pos tpos : Pos} {elts : List Expr} {kk : Nat} (hg : Gl X "zip") (hm : X.mg "zip" = none) (ha : PA X [e, e2, e3] ta)
    (hs : starEach [e, e2, e3] X.env = (false, eval e X.env) :: starEach [e2, e3] X.env := by rfl) (hpl : (backTo pos (starEach [e2, e3] X.env)).any (·.1) = false := by rfl) :
    PI X (.Tuple elts kk tpos) (.Call (.Name "zip" p) [e, e2, e3] [] pos) (iZip3 X.K ta) := by
  refine ⟨fun pins s σ H R I h => ?_⟩
  refine Call_ (ld_blt I hg hm PyProof.Rows.boot_zip (PyProof.Rows.callWith_type1 (thn (ha.run pos pins s σ H _ I h) fun us s1 ⟨vs, H1, I1, r1, q1⟩ => ?_) hs hpl))
  obtain ⟨a, b, c, xs, ys, zs, ex, hqx, hqy, hqz, q⟩ := q1
  subst ex
  cases r1 with
  | cons r rr =>
    cases rr with
    | cons r' rr =>
      cases rr with
      | cons r'' rr =>
        cases rr
        cases r
        cases r'
        cases r''
        obtain ⟨its, rv, p1, _⟩ := I1.list hqx
        obtain ⟨its2, rv2, p2, _⟩ := I1.list hqy
        obtain ⟨its3, rv3, p3, _⟩ := I1.list hqz
        have la : a < s1.heap.objs.size := p1.lt
        have lb : b < s1.heap.objs.size := p2.lt
        have lc : c < s1.heap.objs.size := p3.lt
        refine zip_begins3 (begins_list a its.toArray) (begins_list b its2.toArray) (begins_list c its3.toArray) p1.isList p2.isList p3.isList fun h' hz hTI hTO h1 h2 h3 hsz hk => wpAny_pyIter_zip hz ?_
        have I2 : Inv X pins σ H1 { s1 with heap := h' } := I1.kept (t' := s1.toks) hk
        have S := zip_sep3 (N := s1.heap.objs.size) (fp1 := [a]) (fp2 := [b]) (fp3 := [c]) (fun d hd => by rw [List.mem_singleton.mp hd]; exact la) (fun d hd => by rw [List.mem_singleton.mp hd]; exact lb) (fun d hd => by rw [List.mem_singleton.mp hd]; exact lc)
        refine ⟨s1.heap.objs.size + 5, [s1.heap.objs.size + 5, s1.heap.objs.size + 3, s1.heap.objs.size + 4, s1.heap.objs.size, s1.heap.objs.size + 1, s1.heap.objs.size + 2], _, _, H1, rfl, I2, turn_3 S (Nat.ne_of_lt la) (Nat.ne_of_lt (Nat.lt_succ_of_lt lb)) (Nat.ne_of_lt (Nat.lt_succ_of_lt (Nat.lt_succ_of_lt lc))), ⟨⟨Nat.zero_le _, Nat.zero_le _, Nat.zero_le _⟩, hz, hTI, ⟨_, _, _, hTO⟩, ⟨_, h1, rfl, rfl⟩, ⟨_, h2, rfl, rfl⟩, ⟨_, h3, rfl, rfl⟩⟩, fun d hdm => ?_, q⟩
        have hle : s1.heap.objs.size ≤ d := by
          rcases six6 hdm with z | z | z | z | z | z <;> rw [z]
          · exact Nat.le_add_right _ _
          · exact Nat.le_add_right _ _
          · exact Nat.le_add_right _ _
          · exact Nat.le_refl _
          · exact Nat.le_add_right _ _
          · exact Nat.le_add_right _ _
        exact I1.fpOk hle (I1.hok.fresh hle)
def zip3D : List PyData → List PyData → List PyData → List PyData
  | d :: ds, e :: es, f :: fs => .tuple [d, e, f] :: zip3D ds es fs
  | _, _, _ => []
theorem zip3D_get : ∀ (ds es fs : List PyData) (i : Nat) (d e f : PyData), ds[i]? = some d → es[i]? = some e → fs[i]? = some f → (zip3D ds es fs)[i]? = some (.tuple [d, e, f])
  | x :: r, y :: q, t :: p, 0, d, e, f, h, h2, h3 => by simp at h h2 h3; subst h h2 h3; rfl
  | x :: r, y :: q, t :: p, i + 1, d, e, f, h, h2, h3 => zip3D_get r q p i d e f (by simpa using h) (by simpa using h2) (by simpa using h3)
theorem zip3D_len : ∀ (ds es fs : List PyData), (zip3D ds es fs).length = min (min ds.length es.length) fs.length
  | [], _, _ => by simp [zip3D]
  | _ :: _, [], _ => by simp [zip3D]
  | _ :: _, _ :: _, [] => by simp [zip3D]
  | _ :: r, _ :: q, _ :: p => by simp only [zip3D, List.length_cons, zip3D_len r q p]; omega
theorem itOk_3 {K : PySem.W.Frag} {G : Hp} {a b c : Addr} {vs us ws : List V} {ds es fs : List PyData} (h : G a = some (.lst vs)) (hd : RpAll K G vs ds) (h' : G b = some (.lst us)) (hd' : RpAll K G us es) (h'' : G c = some (.lst ws)) (hd'' : RpAll K G ws fs) : ItOk K G (It3 K a b c vs.length us.length ws.length) (zip3D ds es fs) := by
  intro i H s
  have hl := SqL.of (K := K) (s _ _ h)
  have hl' := SqL.of (K := K) (s _ _ h')
  have hl'' := SqL.of (K := K) (s _ _ h'')
  have q1 := rpAll_len hd
  have q2 := rpAll_len hd'
  have q3 := rpAll_len hd''
  rw [zip3D_len]
  refine ⟨fun hi => ?_, fun hi => ⟨vs, us, ws, hl, hl', hl'', rfl, rfl, rfl, by omega⟩⟩
  have g1 : ds[i]? = some ds[i] := List.getElem?_eq_getElem (by omega)
  have g2 : es[i]? = some es[i] := List.getElem?_eq_getElem (by omega)
  have g3 : fs[i]? = some fs[i] := List.getElem?_eq_getElem (by omega)
  obtain ⟨v, e1, h1⟩ := rpAll_get hd g1
  obtain ⟨w, e2, h2⟩ := rpAll_get hd' g2
  obtain ⟨t, e3, h3⟩ := rpAll_get hd'' g3
  refine ⟨⟨vs, us, ws, v, w, t, hl, hl', hl'', rfl, rfl, rfl, e1, e2, e3⟩, fun x H' hy => ?_⟩
  obtain ⟨T, y, z, u, r1, r2, r3, r4, r5, r6⟩ := hy
  have k1 := r4 vs hl
  have k2 := r5 us hl'
  have k3 := r6 ws hl''
  rw [e1] at k1
  rw [e2] at k2
  rw [e3] at k3
  cases k1
  cases k2
  cases k3
  exact ⟨_, zip3D_get _ _ _ _ _ _ _ g1 g2 g3, .inr ⟨T, _, _, r2, r3, r1, rfl, .cons h1 (.cons h2 (.cons h3 .nil))⟩⟩
def wZip3 (u v w : WE) : WI := fun st Q => u st fun d _ => v st fun d2 _ => w st fun d3 _ => match d, d2, d3 with
  | .list ds, .list es, .list fs => Q (zip3D ds es fs) .b
  | _, _, _ => False
section
variable {X : Cx} {e1 e2 e3 : Expr} {u v w : WE} {p pos : Pos}
theorem ti_zip3 {elts : List Expr} {kk : Nat} {tpos : Pos} (h : TrE X e1 u) (h2 : TrE X e2 v) (h3 : TrE X e3 w) (hg : Gl X "zip") (hm : X.mg "zip" = none)
    (hst : starEach [e1, e2, e3] X.env = (false, eval e1 X.env) :: starEach [e2, e3] X.env := by rfl) (hst2 : starEach [e2, e3] X.env = (false, eval e2 X.env) :: starEach [e3] X.env := by rfl) (hst3 : starEach [e3] X.env = (false, eval e3 X.env) :: starEach [] X.env := by rfl)
    (hpl : (backTo pos (starEach [e2, e3] X.env)).any (·.1) = false := by rfl) : TrI X (.Tuple elts kk tpos) (.Call (.Name "zip" p) [e1, e2, e3] [] pos) (wZip3 u v w) := by
  obtain ⟨t1, p1, s1⟩ := h.run
  obtain ⟨t2, p2, s2⟩ := h2.run
  obtain ⟨t3, p3, s3⟩ := h3.run
  refine ⟨_, pi_zip3 hg hm (pa_cons p1 (pa_cons p2 (pa_cons p3 pa_nil hst3) hst2) hst) hst hpl, fun B F0 H0 F H σ st Q Q' R hw k => s1 B F0 H0 F H σ st _ _ R hw fun x F1 H1 d1 m1 f1 x1 r1 n1 hq1 => s2 B F0 H0 F1 H1 σ st _ _ (R.go x1) hq1 fun y F2 H2 d2 m2 f2 x2 r2 n2 hq2 => s3 B F0 H0 F2 H2 σ st _ _ ((R.go x1).go x2) hq2 fun z F3 H3 d3 m3 f3 x3 r3 n3 hq3 => ?_⟩
  have x13 := (x1.trans x2).trans x3
  split at hq3
  · rename_i ds es fs
    obtain ⟨a, vs, ea, ga, ga', qa⟩ := ((r1.ext x2).ext x3).srcL x13.wf
    obtain ⟨b, us, eb, gb, gb', qb⟩ := (r2.ext x3).srcL x13.wf
    obtain ⟨c, ws, ec, gc, gc', qc⟩ := r3.srcL x13.wf
    exact ⟨a, b, c, vs, us, ws, by rw [ea, eb, ec], SqL.of ga, SqL.of gb, SqL.of gc, k _ F3 H3 _ .b x13 (itOk_3 ga' qa gb' qb gc' qc) hq3⟩
  · exact hq3.elim
end
def z3K (Q : QI) (d d2 : PyData) (d3 : PyData) (_ : Md) : Prop := match d, d2, d3 with
  | .list ds, .list es, .list fs => Q (zip3D ds es fs) .b
  | _, _, _ => False
theorem r_zip3 {u v w : WE} {st : AS} {QQ : QI} : wZip3 u v w st QQ = u st fun d _ => v st fun d2 _ => w st (z3K QQ d d2) := rfl
theorem r_z3L {QQ : QI} {ds es fs : List PyData} {md : Md} : z3K QQ (.list ds) (.list es) (.list fs) md = QQ (zip3D ds es fs) .b := rfl
end AL

namespace LW
open PySem PySem.Spec PyProof.Rows L2 AL
def topS (i : Nat) : Stmt := PySem.Challenge.pw_printlands_k19_whole_tables_of_texts.main.body.getD i (.Pass ⟨0, 0, 0, 0⟩)
abbrev s_text_table : Stmt := topS 1
abbrev N_text_table : List Str := ["rows", "sides", "rooms", "found", "row", "parts", "col", "text", "room", "side"]
theorem sc_text_table : FnScope N_text_table ["rows", "sides"] (defScope s_text_table) := ⟨rfl, rfl, rfl, by decide +kernel, rfl, by decide +kernel, by decide +kernel⟩
abbrev nd_text_table := sc_text_table.nd
abbrev s_put_text : Stmt := topS 2
abbrev N_put_text : List Str := ["text", "room", "side", "rest"]
theorem sc_put_text : FnScope N_put_text ["text", "room", "side"] (defScope s_put_text) := ⟨rfl, rfl, rfl, by decide +kernel, rfl, by decide +kernel, by decide +kernel⟩
abbrev nd_put_text := sc_put_text.nd
abbrev s__law_cell : Stmt := topS 4
abbrev N__law_cell : List Str := ["script", "k"]
theorem sc__law_cell : FnScope N__law_cell ["script", "k"] (defScope s__law_cell) := ⟨rfl, rfl, rfl, by decide +kernel, rfl, by decide +kernel, by decide +kernel⟩
abbrev nd__law_cell := sc__law_cell.nd
abbrev s__law_digits : Stmt := topS 5
abbrev N__law_digits : List Str := ["script", "first", "last", "digits", "k", "cell", "turn", "seed"]
theorem sc__law_digits : FnScope N__law_digits ["script", "first", "last"] (defScope s__law_digits) := ⟨rfl, rfl, rfl, by decide +kernel, rfl, by decide +kernel, by decide +kernel⟩
abbrev nd__law_digits := sc__law_digits.nd
abbrev s__law_draw : Stmt := topS 6
abbrev N__law_draw : List Str := ["box", "many"]
theorem sc__law_draw : FnScope N__law_draw ["box", "many"] (defScope s__law_draw) := ⟨rfl, rfl, rfl, by decide +kernel, rfl, by decide +kernel, by decide +kernel⟩
abbrev nd__law_draw := sc__law_draw.nd
abbrev s__law_pick : Stmt := topS 7
abbrev N__law_pick : List Str := ["box", "row"]
theorem sc__law_pick : FnScope N__law_pick ["box", "row"] (defScope s__law_pick) := ⟨rfl, rfl, rfl, by decide +kernel, rfl, by decide +kernel, by decide +kernel⟩
abbrev nd__law_pick := sc__law_pick.nd
abbrev s__law_same : Stmt := topS 8
abbrev N__law_same : List Str := ["told", "due", "k"]
theorem sc__law_same : FnScope N__law_same ["told", "due"] (defScope s__law_same) := ⟨rfl, rfl, rfl, by decide +kernel, rfl, by decide +kernel, by decide +kernel⟩
abbrev nd__law_same := sc__law_same.nd
abbrev s__law_words : Stmt := topS 9
abbrev N__law_words : List Str := ["box", "many", "found", "k"]
theorem sc__law_words : FnScope N__law_words ["box"] (defScope s__law_words) := ⟨rfl, rfl, rfl, by decide +kernel, rfl, by decide +kernel, by decide +kernel⟩
abbrev nd__law_words := sc__law_words.nd
abbrev s__law_start : Stmt := topS 10
abbrev N__law_start : List Str := ["whole", "room", "side"]
theorem sc__law_start : FnScope N__law_start ["whole", "room", "side"] (defScope s__law_start) := ⟨rfl, rfl, rfl, by decide +kernel, rfl, by decide +kernel, by decide +kernel⟩
abbrev nd__law_start := sc__law_start.nd
abbrev s__law_lines : Stmt := topS 11
abbrev N__law_lines : List Str := ["rows", "sides", "found", "row", "signs", "begin", "k", "room", "other", "start", "j", "turn"]
theorem sc__law_lines : FnScope N__law_lines ["rows", "sides"] (defScope s__law_lines) := ⟨rfl, rfl, rfl, by decide +kernel, rfl, by decide +kernel, by decide +kernel⟩
abbrev nd__law_lines := sc__law_lines.nd
abbrev s__law_put : Stmt := topS 12
abbrev N__law_put : List Str := ["box", "side", "whole", "room", "due", "k"]
theorem sc__law_put : FnScope N__law_put ["box", "side"] (defScope s__law_put) := ⟨rfl, rfl, rfl, by decide +kernel, rfl, by decide +kernel, by decide +kernel⟩
abbrev nd__law_put := sc__law_put.nd
abbrev s_law : Stmt := topS 13
abbrev N_law : List Str := ["script", "box", "turn", "many", "sides", "rows", "due", "again", "handed", "now", "side", "word", "three", "k", "j", "row"]
theorem sc_law : FnScope N_law ["script"] (defScope s_law) := ⟨rfl, rfl, rfl, by decide +kernel, rfl, by decide +kernel, by decide +kernel⟩
abbrev nd_law := sc_law.nd
def w_text_table (a_put_text : ASp) : WS := wSeq (wIfS (wTst (w2 aEq (w1 aLen (wVar 0)) (wC (.int 0)))) (wRet (wLst 0 wLn)) wNext) (
    wSeq (wSet 2 false (wComp 0 [6] (wRng1 (w1 aLen (w2 aIx (wVar 0) (wC (.int 0))))) (gNm 6) wYes (w1 aMax (wComp 0 [4] (wIter (wVar 0)) (gNm 4) wYes (w1 aLen (w2 aIx (wVar 4) (wVar 6))))))) (
    wSeq (wSet 3 true (wLst 0 wLn)) (
    wSeq (wFor (wIter (wVar 0)) (gNm 4) (wSeq (wSet 5 false (wComp 0 [7, 8, 9] (wZip3 (wVar 4) (wVar 2) (wVar 1)) (gTp 3 (gCs (gNm 7) (gCs (gNm 8) (gCs (gNm 9) gNl)))) wYes (wCall 3 a_put_text (wAv (wVar 7) (wAv (wVar 8) (wAv (wVar 9) wAn)))))) (
    wApp 3 (wM1 aRstrip (wM1 aJoin (wC (.str "  ")) (wVar 5)) (wC (.str " ")))))) (
    wRetV 3))))
section
variable {P : Program} {w : World} {K : PySem.W.Frag} {mg : Str → Option Value} {base : Heap}
theorem tr_text_table {k : Nat} {a_put_text : ASp} (D_put_text : Dn P w K mg base k "put_text" 3 a_put_text) (m_len : mg "len" = none) (m_range : mg "range" = none) (m_max : mg "max" = none) (m_zip : mg "zip" = none) {f : Addr} (cdv : Value) (A : Around) (outer : List Env) (s : Shared) (H : Hp) (E : XK) (hr : Room k (A.deeper (envOfC "text_table" (defScope s_text_table) s.heap.objs.size f cdv))) :
    TrB (cxOf CX0 P w K mg base N_text_table "text_table" (defScope s_text_table) f cdv A outer s H E).nox (defBody s_text_table) (w_text_table a_put_text) :=
  tb_cons (ts_if (tt_eq (hu64 hr) (te_len (te_var 0) (by rfl) m_len) te_int) (tb_one (ts_ret (te_lst tl_nil))) tb_nil) (
    tb_cons (ts_comp (own := [("col", 6)]) 2 false 0 rfl nd_text_table rfl (sw_true rfl rfl rfl (by decide +kernel)) (ti_rng1 (te_len (te_at (te_var 0) te_int) (by rfl) m_len) (by rfl) m_range) (blkOk_by (N := N_text_table) (sc := defScope s_text_table) (own := [("col", 6)]) (by decide +kernel)) (fun _ _ _ _ _ => tg_name 6 nd_text_table) (fun _ _ _ _ _ => tts_nil) (fun _ _ _ _ _ => te_max rfl (te_comp (own := [("row", 4)]) 0 rfl nd_text_table (ti_any (te_var 0)) (blkOk_by (own := [("row", 4)]) (by kernel_rfl)) (fun _ _ _ _ _ => tg_name 4 nd_text_table) (fun _ _ _ _ _ => tts_nil) (fun _ _ _ _ _ => te_len (te_at (te_var 4) (te_var 6)) (by rfl) m_len)) (by rfl) m_max)) (
    tb_cons (ts_set 3 true (te_lst tl_nil) nd_text_table) (
    tb_cons (ts_for PassesOwn.never rfl (ti_any (te_var 0)) (tg_name 4 nd_text_table) (tb_cons (ts_comp (own := [("text", 7), ("room", 8), ("side", 9)]) 5 false 0 rfl nd_text_table rfl (sw_true rfl rfl rfl (by decide +kernel)) (ti_zip3 (te_var 4) (te_var 2) (te_var 1) (by rfl) m_zip) (blkOk_by (N := N_text_table) (sc := defScope s_text_table) (own := [("text", 7), ("room", 8), ("side", 9)]) (by decide +kernel)) (fun _ _ _ _ _ => tg_tup rfl (tgs_cons (tg_name 7 nd_text_table) (tgs_cons (tg_name 8 nd_text_table) (tgs_cons (tg_name 9 nd_text_table) tgs_nil)))) (fun _ _ _ _ _ => tts_nil) (fun _ _ _ _ _ => te_callD D_put_text hr (by rfl) (ta_cons (te_var 7) (ta_cons (te_var 8) (ta_cons (te_var 9) ta_nil))))) (
    tb_one (ts_app 3 (te_m_rstrip (te_m_join te_str (te_var 5)) te_str) (hm := fun p q => pe_bm PySem.F.plainAttrs_list PySem.F.slot_list_append PySem.F.type_list_append mt_append p q))))) (
    tb_one (ts_retV 3)))))
end
def w_put_text : WS := wSeq (wIfS (wTst (w2 aEq (wVar 2) (wC (.str "left")))) (wRet (wM1 aLjust (wVar 0) (wVar 1))) wNext) (
    wSeq (wIfS (wTst (w2 aEq (wVar 2) (wC (.str "right")))) (wRet (wM1 aRjust (wVar 0) (wVar 1))) wNext) (
    wSeq (wSet 3 false (w2 aSub (wVar 1) (w1 aLen (wVar 0)))) (
    wRet (w2 aAdd (w2 aAdd (w2 aSRep (wC (.str " ")) (w2 aDiv (wVar 3) (wC (.int 2)))) (wVar 0)) (w2 aSRep (wC (.str " ")) (w2 aSub (wVar 3) (w2 aDiv (wVar 3) (wC (.int 2)))))))))
section
variable {P : Program} {w : World} {K : PySem.W.Frag} {mg : Str → Option Value} {base : Heap}
theorem tr_put_text {k : Nat} (m_len : mg "len" = none) {f : Addr} (cdv : Value) (A : Around) (outer : List Env) (s : Shared) (H : Hp) (E : XK) (hr : Room k (A.deeper (envOfC "put_text" (defScope s_put_text) s.heap.objs.size f cdv))) :
    TrB (cxOf CX0 P w K mg base N_put_text "put_text" (defScope s_put_text) f cdv A outer s H E).nox (defBody s_put_text) (w_put_text) :=
  tb_cons (ts_if (tt_eq (hu64 hr) (te_var 2) te_str) (tb_one (ts_ret (te_m_ljust (te_var 0) (te_var 1)))) tb_nil) (
    tb_cons (ts_if (tt_eq (hu64 hr) (te_var 2) te_str) (tb_one (ts_ret (te_m_rjust (te_var 0) (te_var 1)))) tb_nil) (
    tb_cons (ts_set 3 false (te_sub (te_var 1) (te_len (te_var 0) (by rfl) m_len)) nd_put_text) (
    tb_one (ts_ret (te_add (te_add (te_srep te_str (te_div (te_var 3) te_int)) (te_var 0)) (te_srep te_str (te_sub (te_var 3) (te_div (te_var 3) te_int))))))))
end
def w__law_cell : WS := wSeq (wIfS (wTst (w2 aLt (wVar 1) (wLenS 0))) (wRet (wAtS 0 (wVar 1))) wNext) (
    wRet (wC (.int 0)))
section
variable {P : Program} {w : World} {K : PySem.W.Frag} {mg : Str → Option Value} {base : Heap}
theorem tr__law_cell {k : Nat} (m_len : mg "len" = none) {f : Addr} (cdv : Value) (A : Around) (outer : List Env) (s : Shared) (H : Hp) (E : XK) (hr : Room k (A.deeper (envOfC "_law_cell" (defScope s__law_cell) s.heap.objs.size f cdv))) :
    TrB (cxOf CX0 P w K mg base N__law_cell "_law_cell" (defScope s__law_cell) f cdv A outer s H E).nox (defBody s__law_cell) (w__law_cell) :=
  tb_cons (ts_if (tt_lt (te_var 1) (te_lenS 0 (by rfl) m_len)) (tb_one (ts_ret (te_atS 0 (te_var 1)))) tb_nil) (
    tb_one (ts_ret te_int))
end
def w__law_digits (a__law_cell : ASp) : WS := wSeq (wSet 3 true (wLst 0 wLn)) (
    wSeq (wFor (wRng2 (wVar 1) (wVar 2)) (gNm 4) (wSeq (wSet 5 false (wCall 2 a__law_cell (wAs 0 (wAv (wVar 4) wAn)))) (
    wSeq (wIfS (wTst (w2 aLt (wVar 5) (wC (.int 0)))) (wSet 5 false (w2 aSub (wC (.int 1)) (w2 aMul (wC (.int 2)) (wVar 5)))) wNext) (
    wIfS (wTst (w2 aGe (wVar 5) (w2 aPow (wC (.int 10)) (wC (.int 18))))) (wFor (wRng1 (wC (.int 60))) (gNm 6) (wIfS (wTst (w2 aGt (wVar 5) (wC (.int 0)))) (wSeq (wApp 3 (w2 aMod (w1 aInt (wVar 5)) (wC (.int 1000)))) (
    wSet 5 false (w2 aDiv (wVar 5) (wC (.int 1000))))) wNext)) (wSeq (wSet 7 false (w2 aMod (w1 aInt (w2 aAdd (w2 aAdd (w2 aMul (wVar 5) (wC (.int 48271))) (w2 aMul (wVar 4) (wC (.int 69621)))) (wC (.int 11)))) (wC (.int 2147483647)))) (
    wFor (wRng1 (wC (.int 12))) (gNm 6) (wSeq (wSet 7 false (w2 aMod (w1 aInt (w2 aAdd (w2 aAdd (w2 aMul (wVar 7) (wC (.int 16807))) (w2 aMul (wC (.int 7)) (wVar 6))) (wC (.int 1)))) (wC (.int 2147483647)))) (
    wApp 3 (w2 aMod (w1 aInt (w2 aDiv (wVar 7) (wC (.int 997)))) (wC (.int 1000))))))))))) (
    wRetV 3))
section
variable {P : Program} {w : World} {K : PySem.W.Frag} {mg : Str → Option Value} {base : Heap}
theorem tr__law_digits {k : Nat} {a__law_cell : ASp} (D__law_cell : Dn P w K mg base k "_law_cell" 2 a__law_cell) (m_range : mg "range" = none) (m_int : mg "int" = none) {f : Addr} (cdv : Value) (A : Around) (outer : List Env) (s : Shared) (H : Hp) (E : XK) (hr : Room k (A.deeper (envOfC "_law_digits" (defScope s__law_digits) s.heap.objs.size f cdv))) :
    TrB (cxOf CX0 P w K mg base N__law_digits "_law_digits" (defScope s__law_digits) f cdv A outer s H E).nox (defBody s__law_digits) (w__law_digits a__law_cell) :=
  tb_cons (ts_set 3 true (te_lst tl_nil) nd__law_digits) (
    tb_cons (ts_for PassesOwn.never rfl (ti_rng2 (te_var 1) (te_var 2) (by rfl) m_range) (tg_name 4 nd__law_digits) (tb_cons (ts_set 5 false (te_callD D__law_cell hr (by rfl) (ta_scr 0 (ta_cons (te_var 4) ta_nil))) nd__law_digits) (
    tb_cons (ts_if (tt_lt (te_var 5) te_int) (tb_one (ts_set 5 false (te_sub te_int (te_mul te_int (te_var 5))) nd__law_digits)) tb_nil) (
    tb_one (ts_if (tt_ge (te_var 5) (te_pow te_int te_int)) (tb_one (ts_for PassesOwn.never rfl (ti_rng1 te_int (by rfl) m_range) (tg_name 6 nd__law_digits) (tb_one (ts_if (tt_gt (te_var 5) te_int) (tb_cons (ts_app 3 (te_mod (te_intf (te_var 5) (by rfl) m_int) te_int) (hm := fun p q => pe_bm PySem.F.plainAttrs_list PySem.F.slot_list_append PySem.F.type_list_append mt_append p q)) (
    tb_one (ts_set 5 false (te_div (te_var 5) te_int) nd__law_digits))) tb_nil)))) (tb_cons (ts_set 7 false (te_mod (te_intf (te_add (te_add (te_mul (te_var 5) te_int) (te_mul (te_var 4) te_int)) te_int) (by rfl) m_int) te_int) nd__law_digits) (
    tb_one (ts_for PassesOwn.never rfl (ti_rng1 te_int (by rfl) m_range) (tg_name 6 nd__law_digits) (tb_cons (ts_set 7 false (te_mod (te_intf (te_add (te_add (te_mul (te_var 7) te_int) (te_mul te_int (te_var 6))) te_int) (by rfl) m_int) te_int) nd__law_digits) (
    tb_one (ts_app 3 (te_mod (te_intf (te_div (te_var 7) te_int) (by rfl) m_int) te_int) (hm := fun p q => pe_bm PySem.F.plainAttrs_list PySem.F.slot_list_append PySem.F.type_list_append mt_append p q)))))))))))) (
    tb_one (ts_retV 3)))
end
def w__law_pick (a__law_draw : ASp) : WS := wRet (w2 aIx (wVar 1) (w2 aMod (w1 aInt (wCall 2 a__law_draw (wAb 0 (wAv (wC (.int 1000)) wAn)))) (w1 aLen (wVar 1))))
section
variable {P : Program} {w : World} {K : PySem.W.Frag} {mg : Str → Option Value} {base : Heap}
theorem tr__law_pick {k : Nat} {a__law_draw : ASp} (D__law_draw : Dn P w K mg base k "_law_draw" 2 a__law_draw) (m_int : mg "int" = none) (m_len : mg "len" = none) {f : Addr} (cdv : Value) (A : Around) (outer : List Env) (s : Shared) (H : Hp) (E : XK) (hr : Room k (A.deeper (envOfC "_law_pick" (defScope s__law_pick) s.heap.objs.size f cdv))) :
    TrB (cxOf CX0 P w K mg base N__law_pick "_law_pick" (defScope s__law_pick) f cdv A outer s H E).nox (defBody s__law_pick) (w__law_pick a__law_draw) :=
  tb_one (ts_ret (te_at (te_var 1) (te_mod (te_intf (te_callD D__law_draw hr (by rfl) (ta_box 0 (ta_cons te_int ta_nil))) (by rfl) m_int) (te_len (te_var 1) (by rfl) m_len))))
end
def w__law_same (a__law_same : ASp) : WS := wSeq (wIfS (wTst (wIsN (wVar 1))) (wRet (wIsN (wVar 0))) wNext) (
    wSeq (wIfS (wTst (w2 (aIsBl true) (wVar 1) (wC (.bool true)))) (wRet (w2 (aIsBl true) (wVar 0) (wC (.bool true)))) wNext) (
    wSeq (wIfS (wTst (w2 (aIsBl false) (wVar 1) (wC (.bool false)))) (wRet (w2 (aIsBl false) (wVar 0) (wC (.bool false)))) wNext) (
    wSeq (wIfS (wTst (wIsi "str" (wVar 1))) (wRet (wAndV (wIsi "str" (wVar 0)) (w2 aEq (w1 aRepr (wVar 0)) (w1 aRepr (wVar 1))))) wNext) (
    wSeq (wIfS (wTst (wIsi "int" (wVar 1))) (wRet (wAndV (wIsi "int" (wVar 0)) (wAndV (wNotV (wIsi "bool" (wVar 0))) (w2 aEq (w1 aRepr (wVar 0)) (w1 aRepr (wVar 1)))))) wNext) (
    wSeq (wIfS (wOr (wAnd (wTst (wIsi "tuple" (wVar 1))) (wNot (wTst (wIsi "tuple" (wVar 0))))) (wAnd (wTst (wIsi "list" (wVar 1))) (wNot (wTst (wIsi "list" (wVar 0)))))) (wRet (wC (.bool false))) wNext) (
    wSeq (wIfS (wTst (w2 aNe (w1 aLen (wVar 0)) (w1 aLen (wVar 1)))) (wRet (wC (.bool false))) wNext) (
    wSeq (wFor (wRng1 (w1 aLen (wVar 1))) (gNm 2) (wIfS (wNot (wTst (wCall 2 a__law_same (wAv (w2 aIx (wVar 0) (wVar 2)) (wAv (w2 aIx (wVar 1) (wVar 2)) wAn))))) (wRet (wC (.bool false))) wNext)) (
    wRet (wC (.bool true))))))))))
section
variable {P : Program} {w : World} {K : PySem.W.Frag} {mg : Str → Option Value} {base : Heap}
theorem tr__law_same {k : Nat} {a__law_same : ASp} (D__law_same : Dn P w K mg base k "_law_same" 2 a__law_same) (m_str : mg "str" = none) (m_isinstance : mg "isinstance" = none) (m_repr : mg "repr" = none) (m_int : mg "int" = none) (m_bool : mg "bool" = none) (m_tuple : mg "tuple" = none) (m_list : mg "list" = none) (m_len : mg "len" = none) (m_range : mg "range" = none) {f : Addr} (cdv : Value) (A : Around) (outer : List Env) (s : Shared) (H : Hp) (E : XK) (hr : Room k (A.deeper (envOfC "_law_same" (defScope s__law_same) s.heap.objs.size f cdv))) :
    TrB (cxOf CX0 P w K mg base N__law_same "_law_same" (defScope s__law_same) f cdv A outer s H E).nox (defBody s__law_same) (w__law_same a__law_same) :=
  tb_cons (ts_if (tt_isN (te_var 1)) (tb_one (ts_ret (te_isN (te_var 0)))) tb_nil) (
    tb_cons (ts_if (tt_isBl (te_var 1)) (tb_one (ts_ret (te_isBl (te_var 0)))) tb_nil) (
    tb_cons (ts_if (tt_isBl (te_var 1)) (tb_one (ts_ret (te_isBl (te_var 0)))) tb_nil) (
    tb_cons (ts_if (tt_val (te_isi (n := "str") (te_var 1) (by rfl) m_str (by decide +kernel) (by rfl) m_isinstance)) (tb_one (ts_ret (te_and (te_isi (n := "str") (te_var 0) (by rfl) m_str (by decide +kernel) (by rfl) m_isinstance) (te_one (te_eq (hu64 hr) (te_repr (te_var 0) (by rfl) m_repr) (te_repr (te_var 1) (by rfl) m_repr)))))) tb_nil) (
    tb_cons (ts_if (tt_val (te_isi (n := "int") (te_var 1) (by rfl) m_int (by decide +kernel) (by rfl) m_isinstance)) (tb_one (ts_ret (te_and (te_isi (n := "int") (te_var 0) (by rfl) m_int (by decide +kernel) (by rfl) m_isinstance) (te_and (te_not (te_isi (n := "bool") (te_var 0) (by rfl) m_bool (by decide +kernel) (by rfl) m_isinstance)) (te_one (te_eq (hu64 hr) (te_repr (te_var 0) (by rfl) m_repr) (te_repr (te_var 1) (by rfl) m_repr))))))) tb_nil) (
    tb_cons (ts_if (TrW.tt (tw_or (TrW.tt (tw_and (tt_val (te_isi (n := "tuple") (te_var 1) (by rfl) m_tuple (by decide +kernel) (by rfl) m_isinstance)) (tw_and1 (tt_not (tt_val (te_isi (n := "tuple") (te_var 0) (by rfl) m_tuple (by decide +kernel) (by rfl) m_isinstance)))))) (tw_or1 (TrW.tt (tw_and (tt_val (te_isi (n := "list") (te_var 1) (by rfl) m_list (by decide +kernel) (by rfl) m_isinstance)) (tw_and1 (tt_not (tt_val (te_isi (n := "list") (te_var 0) (by rfl) m_list (by decide +kernel) (by rfl) m_isinstance))))))))) (tb_one (ts_ret te_bl)) tb_nil) (
    tb_cons (ts_if (tt_ne (hu64 hr) (te_len (te_var 0) (by rfl) m_len) (te_len (te_var 1) (by rfl) m_len)) (tb_one (ts_ret te_bl)) tb_nil) (
    tb_cons (ts_for PassesOwn.never rfl (ti_rng1 (te_len (te_var 1) (by rfl) m_len) (by rfl) m_range) (tg_name 2 nd__law_same) (tb_one (ts_if (tt_not (tt_val (te_callD D__law_same hr (by rfl) (ta_cons (te_at (te_var 0) (te_var 2)) (ta_cons (te_at (te_var 1) (te_var 2)) ta_nil))))) (tb_one (ts_ret te_bl)) tb_nil))) (
    tb_one (ts_ret te_bl)))))))))
end
def w__law_words (a__law_draw a__law_pick : ASp) : WS := wSeq (wSet 1 false (wCall 2 a__law_pick (wAb 0 (wAv (wLst 0 (wLc 0 (wC (.int 0)) (wLc 0 (wC (.int 1)) (wLc 0 (wC (.int 1)) (wLc 0 (wC (.int 2)) (wLc 0 (wC (.int 3)) (wLc 0 (wCall 2 a__law_draw (wAb 0 (wAv (wC (.int 10)) wAn))) wLn))))))) wAn)))) (
    wSeq (wSet 2 true (wComp 0 [3] (wRng1 (wVar 1)) (gNm 3) wYes (wCall 2 a__law_pick (wAb 0 (wAv (wC (.str "abcxyz,.-AZ09  ")) wAn))))) (
    wSeqJ (wIfS (wAnd (wTst (w2 aNe (wVar 2) (wLst 0 wLn))) (wTst (w2 aEq (w2 aIx (wVar 2) (wC (.int 0))) (wC (.str " "))))) (wSetAt 2 (wC (.int 0)) (wC (.str "q"))) wNext) (
    wSeqJ (wIfS (wAnd (wTst (w2 aNe (wVar 2) (wLst 0 wLn))) (wTst (w2 aEq (w2 aIx (wVar 2) (w2 aSub (wVar 1) (wC (.int 1)))) (wC (.str " "))))) (wSetAt 2 (w2 aSub (wVar 1) (wC (.int 1))) (wC (.str "w"))) wNext) (
    wRet (wM1 aJoin (wC (.str "")) (wVar 2))))))
section
variable {P : Program} {w : World} {K : PySem.W.Frag} {mg : Str → Option Value} {base : Heap}
theorem tr__law_words {k : Nat} {a__law_draw : ASp} (D__law_draw : Dn P w K mg base k "_law_draw" 2 a__law_draw) {a__law_pick : ASp} (D__law_pick : Dn P w K mg base k "_law_pick" 2 a__law_pick) (m_range : mg "range" = none) {f : Addr} (cdv : Value) (A : Around) (outer : List Env) (s : Shared) (H : Hp) (E : XK) (hr : Room k (A.deeper (envOfC "_law_words" (defScope s__law_words) s.heap.objs.size f cdv))) :
    TrB (cxOf CX0 P w K mg base N__law_words "_law_words" (defScope s__law_words) f cdv A outer s H E).nox (defBody s__law_words) (w__law_words a__law_draw a__law_pick) :=
  tb_cons (ts_set 1 false (te_callD D__law_pick hr (by rfl) (ta_box 0 (ta_cons (te_lst (tl_cons (m := 0) te_int (tl_cons (m := 0) te_int (tl_cons (m := 0) te_int (tl_cons (m := 0) te_int (tl_cons (m := 0) te_int (tl_cons (m := 0) (te_callD D__law_draw hr (by rfl) (ta_box 0 (ta_cons te_int ta_nil))) tl_nil))))))) ta_nil))) nd__law_words) (
    tb_cons (ts_comp (own := [("k", 3)]) 2 true 0 rfl nd__law_words rfl (sw_true rfl rfl rfl (by decide +kernel)) (ti_rng1 (te_var 1) (by rfl) m_range) (blkOk_by (N := N__law_words) (sc := defScope s__law_words) (own := [("k", 3)]) (by decide +kernel)) (fun _ _ _ _ _ => tg_name 3 nd__law_words) (fun _ _ _ _ _ => tts_nil) (fun _ _ _ _ _ => te_callD D__law_pick hr (by rfl) (ta_box 0 (ta_cons te_str ta_nil)))) (
    tb_consJ (ts_if (TrW.tt (tw_and (tt_ne (hu64 hr) (te_var 2) (te_lst tl_nil)) (tw_and1 (tt_eq (hu64 hr) (te_at (te_var 2) te_int) te_str)))) (tb_one (ts_setAt 2 te_str te_int)) tb_nil) (
    tb_consJ (ts_if (TrW.tt (tw_and (tt_ne (hu64 hr) (te_var 2) (te_lst tl_nil)) (tw_and1 (tt_eq (hu64 hr) (te_at (te_var 2) (te_sub (te_var 1) te_int)) te_str)))) (tb_one (ts_setAt 2 te_str (te_sub (te_var 1) te_int))) tb_nil) (
    tb_one (ts_ret (te_m_join te_str (te_var 2)))))))
end
def w__law_start : WS := wSeq (wIfS (wTst (w2 aEq (wVar 2) (wC (.str "left")))) (wRet (wC (.int 0))) wNext) (
    wSeq (wIfS (wTst (w2 aEq (wVar 2) (wC (.str "right")))) (wRet (w2 aSub (wVar 1) (w1 aLen (wVar 0)))) wNext) (
    wRet (w2 aDiv (w2 aSub (wVar 1) (w1 aLen (wVar 0))) (wC (.int 2)))))
section
variable {P : Program} {w : World} {K : PySem.W.Frag} {mg : Str → Option Value} {base : Heap}
theorem tr__law_start {k : Nat} (m_len : mg "len" = none) {f : Addr} (cdv : Value) (A : Around) (outer : List Env) (s : Shared) (H : Hp) (E : XK) (hr : Room k (A.deeper (envOfC "_law_start" (defScope s__law_start) s.heap.objs.size f cdv))) :
    TrB (cxOf CX0 P w K mg base N__law_start "_law_start" (defScope s__law_start) f cdv A outer s H E).nox (defBody s__law_start) (w__law_start) :=
  tb_cons (ts_if (tt_eq (hu64 hr) (te_var 2) te_str) (tb_one (ts_ret te_int)) tb_nil) (
    tb_cons (ts_if (tt_eq (hu64 hr) (te_var 2) te_str) (tb_one (ts_ret (te_sub (te_var 1) (te_len (te_var 0) (by rfl) m_len)))) tb_nil) (
    tb_one (ts_ret (te_div (te_sub (te_var 1) (te_len (te_var 0) (by rfl) m_len)) te_int))))
end
def w__law_lines (a__law_start : ASp) : WS := wSeq (wSet 2 true (wLst 0 wLn)) (
    wSeq (wFor (wIter (wVar 0)) (gNm 3) (wSeq (wSet 4 true (wLst 0 wLn)) (
    wSeq (wSet 5 false (wC (.int 0))) (
    wSeq (wFor (wRng1 (w1 aLen (wVar 3))) (gNm 6) (wSeq (wSet 7 false (wC (.int 0))) (
    wSeq (wFor (wIter (wVar 0)) (gNm 8) (wSet 7 false (w2 aMax2 (wVar 7) (w1 aLen (w2 aIx (wVar 8) (wVar 6)))))) (
    wSeq (wSet 9 false (w2 aAdd (wVar 5) (wCall 3 a__law_start (wAv (w2 aIx (wVar 3) (wVar 6)) (wAv (wVar 7) (wAv (w2 aIx (wVar 1) (wVar 6)) wAn)))))) (
    wSeq (wFor (wRng1 (w1 aLen (w2 aIx (wVar 3) (wVar 6)))) (gNm 10) (wSeq (wFor (wRng1 (w2 aSub (w2 aAdd (wVar 9) (wVar 10)) (w1 aLen (wVar 4)))) (gNm 11) (wApp 4 (wC (.str " ")))) (
    wApp 4 (w2 aIx (w2 aIx (wVar 3) (wVar 6)) (wVar 10))))) (
    wSet 5 false (w2 aAdd (w2 aAdd (wVar 5) (wVar 7)) (wC (.int 2))))))))) (
    wApp 2 (wM1 aJoin (wC (.str "")) (wVar 4))))))) (
    wRetV 2))
section
variable {P : Program} {w : World} {K : PySem.W.Frag} {mg : Str → Option Value} {base : Heap}
theorem tr__law_lines {k : Nat} {a__law_start : ASp} (D__law_start : Dn P w K mg base k "_law_start" 3 a__law_start) (m_range : mg "range" = none) (m_len : mg "len" = none) (m_max : mg "max" = none) {f : Addr} (cdv : Value) (A : Around) (outer : List Env) (s : Shared) (H : Hp) (E : XK) (hr : Room k (A.deeper (envOfC "_law_lines" (defScope s__law_lines) s.heap.objs.size f cdv))) :
    TrB (cxOf CX0 P w K mg base N__law_lines "_law_lines" (defScope s__law_lines) f cdv A outer s H E).nox (defBody s__law_lines) (w__law_lines a__law_start) :=
  tb_cons (ts_set 2 true (te_lst tl_nil) nd__law_lines) (
    tb_cons (ts_for PassesOwn.never rfl (ti_any (te_var 0)) (tg_name 3 nd__law_lines) (tb_cons (ts_set 4 true (te_lst tl_nil) nd__law_lines) (
    tb_cons (ts_set 5 false te_int nd__law_lines) (
    tb_cons (ts_for PassesOwn.never rfl (ti_rng1 (te_len (te_var 3) (by rfl) m_len) (by rfl) m_range) (tg_name 6 nd__law_lines) (tb_cons (ts_set 7 false te_int nd__law_lines) (
    tb_cons (ts_for PassesOwn.never rfl (ti_any (te_var 0)) (tg_name 8 nd__law_lines) (tb_one (ts_set 7 false (te_max2 rfl (te_var 7) (te_len (te_at (te_var 8) (te_var 6)) (by rfl) m_len) (by rfl) m_max) nd__law_lines))) (
    tb_cons (ts_set 9 false (te_add (te_var 5) (te_callD D__law_start hr (by rfl) (ta_cons (te_at (te_var 3) (te_var 6)) (ta_cons (te_var 7) (ta_cons (te_at (te_var 1) (te_var 6)) ta_nil))))) nd__law_lines) (
    tb_cons (ts_for PassesOwn.never rfl (ti_rng1 (te_len (te_at (te_var 3) (te_var 6)) (by rfl) m_len) (by rfl) m_range) (tg_name 10 nd__law_lines) (tb_cons (ts_for PassesOwn.never rfl (ti_rng1 (te_sub (te_add (te_var 9) (te_var 10)) (te_len (te_var 4) (by rfl) m_len)) (by rfl) m_range) (tg_name 11 nd__law_lines) (tb_one (ts_app 4 te_str (hm := fun p q => pe_bm PySem.F.plainAttrs_list PySem.F.slot_list_append PySem.F.type_list_append mt_append p q)))) (
    tb_one (ts_app 4 (te_at (te_at (te_var 3) (te_var 6)) (te_var 10)) (hm := fun p q => pe_bm PySem.F.plainAttrs_list PySem.F.slot_list_append PySem.F.type_list_append mt_append p q))))) (
    tb_one (ts_set 5 false (te_add (te_add (te_var 5) (te_var 7)) te_int) nd__law_lines))))))) (
    tb_one (ts_app 2 (te_m_join te_str (te_var 4)) (hm := fun p q => pe_bm PySem.F.plainAttrs_list PySem.F.slot_list_append PySem.F.type_list_append mt_append p q))))))) (
    tb_one (ts_retV 2)))
end
def w__law_put (a__law_words a__law_draw a__law_pick a__law_start a_put_text a__law_same : ASp) : WS := wSeq (wSet 2 false (wCall 1 a__law_words (wAb 0 wAn))) (
    wSeq (wSet 3 false (w2 aAdd (w1 aLen (wVar 2)) (wCall 2 a__law_pick (wAb 0 (wAv (wLst 0 (wLc 0 (wC (.int 0)) (wLc 0 (wC (.int 1)) (wLc 0 (wC (.int 2)) (wLc 0 (wC (.int 3)) (wLc 0 (wCall 2 a__law_draw (wAb 0 (wAv (wC (.int 21)) wAn))) wLn)))))) wAn))))) (
    wSeq (wSet 4 false (wC (.str ""))) (
    wSeq (wFor (wRng1 (wCall 3 a__law_start (wAv (wVar 2) (wAv (wVar 3) (wAv (wVar 1) wAn))))) (gNm 5) (wSet 4 false (w2 aAdd (wVar 4) (wC (.str " "))))) (
    wSeq (wSet 4 false (w2 aAdd (wVar 4) (wVar 2))) (
    wSeq (wFor (wRng1 (w2 aSub (wVar 3) (w1 aLen (wVar 4)))) (gNm 5) (wSet 4 false (w2 aAdd (wVar 4) (wC (.str " "))))) (
    wRet (wAndV (wCall 2 a__law_same (wAv (wCall 3 a_put_text (wAv (wVar 2) (wAv (wVar 3) (wAv (wVar 1) wAn)))) (wAv (wVar 4) wAn))) (w2 aEq (w1 aLen (wVar 4)) (wVar 3)))))))))
section
variable {P : Program} {w : World} {K : PySem.W.Frag} {mg : Str → Option Value} {base : Heap}
theorem tr__law_put {k : Nat} {a__law_words : ASp} (D__law_words : Dn P w K mg base k "_law_words" 1 a__law_words) {a__law_draw : ASp} (D__law_draw : Dn P w K mg base k "_law_draw" 2 a__law_draw) {a__law_pick : ASp} (D__law_pick : Dn P w K mg base k "_law_pick" 2 a__law_pick) {a__law_start : ASp} (D__law_start : Dn P w K mg base k "_law_start" 3 a__law_start) {a_put_text : ASp} (D_put_text : Dn P w K mg base k "put_text" 3 a_put_text) {a__law_same : ASp} (D__law_same : Dn P w K mg base k "_law_same" 2 a__law_same) (m_len : mg "len" = none) (m_range : mg "range" = none) {f : Addr} (cdv : Value) (A : Around) (outer : List Env) (s : Shared) (H : Hp) (E : XK) (hr : Room k (A.deeper (envOfC "_law_put" (defScope s__law_put) s.heap.objs.size f cdv))) :
    TrB (cxOf CX0 P w K mg base N__law_put "_law_put" (defScope s__law_put) f cdv A outer s H E).nox (defBody s__law_put) (w__law_put a__law_words a__law_draw a__law_pick a__law_start a_put_text a__law_same) :=
  tb_cons (ts_set 2 false (te_callD D__law_words hr (by rfl) (ta_box 0 ta_nil)) nd__law_put) (
    tb_cons (ts_set 3 false (te_add (te_len (te_var 2) (by rfl) m_len) (te_callD D__law_pick hr (by rfl) (ta_box 0 (ta_cons (te_lst (tl_cons (m := 0) te_int (tl_cons (m := 0) te_int (tl_cons (m := 0) te_int (tl_cons (m := 0) te_int (tl_cons (m := 0) (te_callD D__law_draw hr (by rfl) (ta_box 0 (ta_cons te_int ta_nil))) tl_nil)))))) ta_nil)))) nd__law_put) (
    tb_cons (ts_set 4 false te_str nd__law_put) (
    tb_cons (ts_for PassesOwn.never rfl (ti_rng1 (te_callD D__law_start hr (by rfl) (ta_cons (te_var 2) (ta_cons (te_var 3) (ta_cons (te_var 1) ta_nil)))) (by rfl) m_range) (tg_name 5 nd__law_put) (tb_one (ts_set 4 false (te_add (te_var 4) te_str) nd__law_put))) (
    tb_cons (ts_set 4 false (te_add (te_var 4) (te_var 2)) nd__law_put) (
    tb_cons (ts_for PassesOwn.never rfl (ti_rng1 (te_sub (te_var 3) (te_len (te_var 4) (by rfl) m_len)) (by rfl) m_range) (tg_name 5 nd__law_put) (tb_one (ts_set 4 false (te_add (te_var 4) te_str) nd__law_put))) (
    tb_one (ts_ret (te_and (te_callD D__law_same hr (by rfl) (ta_cons (te_callD D_put_text hr (by rfl) (ta_cons (te_var 2) (ta_cons (te_var 3) (ta_cons (te_var 1) ta_nil)))) (ta_cons (te_var 4) ta_nil))) (te_one (te_eq (hu64 hr) (te_len (te_var 4) (by rfl) m_len) (te_var 3)))))))))))
end
def w_law (a__law_draw a__law_pick a__law_words a__law_lines a_text_table a__law_same a__law_put : ASp) : WS := wSeq (wFor (wRng1 (wC (.int 4))) (gNm 2) (wSeq (wSet 3 false (w2 aAdd (wC (.int 1)) (wCall 2 a__law_draw (wAb 1 (wAv (wC (.int 4)) wAn))))) (
    wSeq (wSet 4 false (wComp 0 [13] (wRng1 (wVar 3)) (gNm 13) wYes (wCall 2 a__law_pick (wAb 1 (wAv (wLst 0 (wLc 0 (wC (.str "left")) (wLc 0 (wC (.str "right")) (wLc 0 (wC (.str "middle")) wLn)))) wAn))))) (
    wSeq (wSet 5 false (wComp 0 [14] (wRng1 (wCall 2 a__law_draw (wAb 1 (wAv (wC (.int 6)) wAn)))) (gNm 14) wYes (wComp 0 [13] (wRng1 (wVar 3)) (gNm 13) wYes (wCall 1 a__law_words (wAb 1 wAn))))) (
    wSeq (wSet 6 false (wCall 2 a__law_lines (wAv (wVar 5) (wAv (wVar 4) wAn)))) (
    wSeq (wFor (wRng1 (wC (.int 2))) (gNm 7) (wSeq (wSet 8 false (wLst 0 (wLc 0 (wComp 0 [15] (wIter (wVar 5)) (gNm 15) wYes (w1 aList (wVar 15))) (wLc 0 (w1 aList (wVar 4)) wLn)))) (
    wSeq (wSet 9 true (wCall 2 a_text_table (wAv (w2 aIx (wVar 8) (wC (.int 0))) (wAv (w2 aIx (wVar 8) (wC (.int 1))) wAn)))) (
    wSeq (wIfS (wOr (wNot (wTst (wCall 2 a__law_same (wAv (wVar 9) (wAv (wVar 6) wAn))))) (wTst (w2 aNe (wVar 8) (wLst 0 (wLc 0 (wVar 5) (wLc 0 (wVar 4) wLn)))))) (wRet (wC (.bool false))) wNext) (
    wApp 9 (wC (.str "x"))))))) (
    wIfS (wNot (wTst (wCall 2 a__law_put (wAb 1 (wAv (wCall 2 a__law_pick (wAb 1 (wAv (wVar 4) wAn))) wAn))))) (wRet (wC (.bool false))) wNext))))))) (
    wSeq (wFor (wIter (wLst 0 (wLc 0 (wC (.str "left")) (wLc 0 (wC (.str "right")) (wLc 0 (wC (.str "middle")) wLn))))) (gNm 10) (wIfS (wNot (wTst (wCall 2 a__law_put (wAb 1 (wAv (wVar 10) wAn))))) (wRet (wC (.bool false))) wNext)) (
    wSeq (wSet 11 false (wM1 aJoin (wC (.str "")) (wComp 0 [13] (wRng1 (wC (.int 5))) (gNm 13) wYes (wCall 2 a__law_pick (wAb 1 (wAv (wC (.str "abcdefghijklmnopqrstuvwxyz")) wAn)))))) (
    wSeq (wSet 5 false (wLst 0 (wLc 0 (wLst 0 (wLc 0 (wC (.str "a")) (wLc 0 (wC (.str "b")) (wLc 0 (wC (.str "c")) wLn)))) (wLc 0 (wLst 0 (wLc 0 (wVar 11) (wLc 0 (wVar 11) (wLc 0 (wVar 11) wLn)))) (wLc 0 (wLst 0 (wLc 0 (wC (.str "")) (wLc 0 (wC (.str "")) (wLc 0 (wC (.str "")) wLn)))) (wLc 0 (wLst 0 (wLc 0 (wC (.str "")) (wLc 0 (wC (.str "d")) (wLc 0 (wC (.str "")) wLn)))) wLn)))))) (
    wSeq (wSet 12 false (w2 aAdd (w2 aAdd (w2 aAdd (w2 aAdd (wVar 11) (wC (.str "  "))) (wVar 11)) (wC (.str "  "))) (wVar 11))) (
    wSeq (wSet 6 false (wLst 0 (wLc 0 (w2 aAdd (w2 aAdd (w2 aAdd (w2 aAdd (wC (.str "a")) (w2 aSRep (wC (.str " ")) (wC (.int 6)))) (wC (.str "b"))) (w2 aSRep (wC (.str " ")) (wC (.int 6)))) (wC (.str "c"))) (wLc 0 (wVar 12) (wLc 0 (wC (.str "")) (wLc 0 (w2 aAdd (w2 aSRep (wC (.str " ")) (wC (.int 7))) (wC (.str "d"))) wLn)))))) (
    wSeq (wIfS (wNot (wTst (wCall 2 a__law_same (wAv (wCall 2 a_text_table (wAv (wComp 0 [15] (wIter (wVar 5)) (gNm 15) wYes (w1 aList (wVar 15))) (wAv (wLst 0 (wLc 0 (wC (.str "left")) (wLc 0 (wC (.str "left")) (wLc 0 (wC (.str "left")) wLn)))) wAn))) (wAv (wVar 6) wAn))))) (wRet (wC (.bool false))) wNext) (
    wSeq (wSet 6 false (wLst 0 (wLc 0 (w2 aAdd (w2 aAdd (w2 aAdd (w2 aAdd (wC (.str "a")) (w2 aSRep (wC (.str " ")) (wC (.int 8)))) (wC (.str "b"))) (w2 aSRep (wC (.str " ")) (wC (.int 8)))) (wC (.str "c"))) (wLc 0 (wVar 12) (wLc 0 (wC (.str "")) (wLc 0 (w2 aAdd (w2 aSRep (wC (.str " ")) (wC (.int 9))) (wC (.str "d"))) wLn)))))) (
    wRet (wCall 2 a__law_same (wAv (wCall 2 a_text_table (wAv (wComp 0 [15] (wIter (wVar 5)) (gNm 15) wYes (w1 aList (wVar 15))) (wAv (wLst 0 (wLc 0 (wC (.str "left")) (wLc 0 (wC (.str "middle")) (wLc 0 (wC (.str "right")) wLn)))) wAn))) (wAv (wVar 6) wAn)))))))))))
section
variable {P : Program} {w : World} {K : PySem.W.Frag} {mg : Str → Option Value} {base : Heap}
theorem tr_law {k : Nat} {a__law_draw : ASp} (D__law_draw : Dn P w K mg base k "_law_draw" 2 a__law_draw) {a__law_pick : ASp} (D__law_pick : Dn P w K mg base k "_law_pick" 2 a__law_pick) {a__law_words : ASp} (D__law_words : Dn P w K mg base k "_law_words" 1 a__law_words) {a__law_lines : ASp} (D__law_lines : Dn P w K mg base k "_law_lines" 2 a__law_lines) {a_text_table : ASp} (D_text_table : Dn P w K mg base k "text_table" 2 a_text_table) {a__law_same : ASp} (D__law_same : Dn P w K mg base k "_law_same" 2 a__law_same) {a__law_put : ASp} (D__law_put : Dn P w K mg base k "_law_put" 2 a__law_put) (m_range : mg "range" = none) (m_list : mg "list" = none) {f : Addr} (cdv : Value) (A : Around) (outer : List Env) (s : Shared) (H : Hp) (E : XK) (hr : Room k (A.deeper (envOfC "law" (defScope s_law) s.heap.objs.size f cdv))) :
    TrB (cxOf CX0 P w K mg base N_law "law" (defScope s_law) f cdv A outer s H E).nox ((defBody s_law).tail) (w_law a__law_draw a__law_pick a__law_words a__law_lines a_text_table a__law_same a__law_put) :=
  tb_cons (ts_for PassesOwn.never rfl (ti_rng1 te_int (by rfl) m_range) (tg_name 2 nd_law) (tb_cons (ts_set 3 false (te_add te_int (te_callD D__law_draw hr (by rfl) (ta_box 1 (ta_cons te_int ta_nil)))) nd_law) (
    tb_cons (ts_comp (own := [("k", 13)]) 4 false 0 rfl nd_law rfl (sw_true rfl rfl rfl (by decide +kernel)) (ti_rng1 (te_var 3) (by rfl) m_range) (blkOk_by (N := N_law) (sc := defScope s_law) (own := [("k", 13)]) (by decide +kernel)) (fun _ _ _ _ _ => tg_name 13 nd_law) (fun _ _ _ _ _ => tts_nil) (fun _ _ _ _ _ => te_callD D__law_pick hr (by rfl) (ta_box 1 (ta_cons (te_lst (tl_cons (m := 0) te_str (tl_cons (m := 0) te_str (tl_cons (m := 0) te_str tl_nil)))) ta_nil)))) (
    tb_cons (ts_comp (own := [("j", 14)]) 5 false 0 rfl nd_law rfl (sw_true rfl rfl rfl (by decide +kernel)) (ti_rng1 (te_callD D__law_draw hr (by rfl) (ta_box 1 (ta_cons te_int ta_nil))) (by rfl) m_range) (blkOk_by (N := N_law) (sc := defScope s_law) (own := [("j", 14)]) (by decide +kernel)) (fun _ _ _ _ _ => tg_name 14 nd_law) (fun _ _ _ _ _ => tts_nil) (fun _ _ _ _ _ => te_comp (own := [("k", 13)]) 0 rfl nd_law (ti_rng1 (te_var 3) (by rfl) m_range) (blkOk_by (own := [("k", 13)]) (by kernel_rfl)) (fun _ _ _ _ _ => tg_name 13 nd_law) (fun _ _ _ _ _ => tts_nil) (fun _ _ _ _ _ => te_callD D__law_words hr (by rfl) (ta_box 1 ta_nil)))) (
    tb_cons (ts_set 6 false (te_callD D__law_lines hr (by rfl) (ta_cons (te_var 5) (ta_cons (te_var 4) ta_nil))) nd_law) (
    tb_cons (ts_for PassesOwn.never rfl (ti_rng1 te_int (by rfl) m_range) (tg_name 7 nd_law) (tb_cons (ts_set 8 false (te_lst (tl_cons (m := 0) (te_comp (own := [("row", 15)]) 0 rfl nd_law (ti_any (te_var 5)) (blkOk_by (N := N_law) (sc := defScope s_law) (own := [("row", 15)]) (by decide +kernel)) (fun _ _ _ _ _ => tg_name 15 nd_law) (fun _ _ _ _ _ => tts_nil) (fun _ _ _ _ _ => te_list (te_var 15) (by rfl) m_list)) (tl_cons (m := 0) (te_list (te_var 4) (by rfl) m_list) tl_nil))) nd_law) (
    tb_cons (ts_set 9 true (te_callD D_text_table hr (by rfl) (ta_cons (te_at (te_var 8) te_int) (ta_cons (te_at (te_var 8) te_int) ta_nil))) nd_law) (
    tb_cons (ts_if (TrW.tt (tw_or (tt_not (tt_val (te_callD D__law_same hr (by rfl) (ta_cons (te_var 9) (ta_cons (te_var 6) ta_nil))))) (tw_or1 (tt_ne (hu64 hr) (te_var 8) (te_lst (tl_cons (m := 0) (te_var 5) (tl_cons (m := 0) (te_var 4) tl_nil))))))) (tb_one (ts_ret te_bl)) tb_nil) (
    tb_one (ts_app 9 te_str (hm := fun p q => pe_bm PySem.F.plainAttrs_list PySem.F.slot_list_append PySem.F.type_list_append mt_append p q))))))) (
    tb_one (ts_if (tt_not (tt_val (te_callD D__law_put hr (by rfl) (ta_box 1 (ta_cons (te_callD D__law_pick hr (by rfl) (ta_box 1 (ta_cons (te_var 4) ta_nil))) ta_nil))))) (tb_one (ts_ret te_bl)) tb_nil)))))))) (
    tb_cons (ts_for PassesOwn.never rfl (ti_any (te_lst (tl_cons (m := 0) te_str (tl_cons (m := 0) te_str (tl_cons (m := 0) te_str tl_nil))))) (tg_name 10 nd_law) (tb_one (ts_if (tt_not (tt_val (te_callD D__law_put hr (by rfl) (ta_box 1 (ta_cons (te_var 10) ta_nil))))) (tb_one (ts_ret te_bl)) tb_nil))) (
    tb_cons (ts_set 11 false (te_m_join te_str (te_comp (own := [("k", 13)]) 0 rfl nd_law (ti_rng1 te_int (by rfl) m_range) (blkOk_by (N := N_law) (sc := defScope s_law) (own := [("k", 13)]) (by decide +kernel)) (fun _ _ _ _ _ => tg_name 13 nd_law) (fun _ _ _ _ _ => tts_nil) (fun _ _ _ _ _ => te_callD D__law_pick hr (by rfl) (ta_box 1 (ta_cons te_str ta_nil))))) nd_law) (
    tb_cons (ts_set 5 false (te_lst (tl_cons (m := 0) (te_lst (tl_cons (m := 0) te_str (tl_cons (m := 0) te_str (tl_cons (m := 0) te_str tl_nil)))) (tl_cons (m := 0) (te_lst (tl_cons (m := 0) (te_var 11) (tl_cons (m := 0) (te_var 11) (tl_cons (m := 0) (te_var 11) tl_nil)))) (tl_cons (m := 0) (te_lst (tl_cons (m := 0) te_str (tl_cons (m := 0) te_str (tl_cons (m := 0) te_str tl_nil)))) (tl_cons (m := 0) (te_lst (tl_cons (m := 0) te_str (tl_cons (m := 0) te_str (tl_cons (m := 0) te_str tl_nil)))) tl_nil))))) nd_law) (
    tb_cons (ts_set 12 false (te_add (te_add (te_add (te_add (te_var 11) te_str) (te_var 11)) te_str) (te_var 11)) nd_law) (
    tb_cons (ts_set 6 false (te_lst (tl_cons (m := 0) (te_add (te_add (te_add (te_add te_str (te_srep te_str te_int)) te_str) (te_srep te_str te_int)) te_str) (tl_cons (m := 0) (te_var 12) (tl_cons (m := 0) te_str (tl_cons (m := 0) (te_add (te_srep te_str te_int) te_str) tl_nil))))) nd_law) (
    tb_cons (ts_if (tt_not (tt_val (te_callD D__law_same hr (by rfl) (ta_cons (te_callD D_text_table hr (by rfl) (ta_cons (te_comp (own := [("row", 15)]) 0 rfl nd_law (ti_any (te_var 5)) (blkOk_by (N := N_law) (sc := defScope s_law) (own := [("row", 15)]) (by decide +kernel)) (fun _ _ _ _ _ => tg_name 15 nd_law) (fun _ _ _ _ _ => tts_nil) (fun _ _ _ _ _ => te_list (te_var 15) (by rfl) m_list)) (ta_cons (te_lst (tl_cons (m := 0) te_str (tl_cons (m := 0) te_str (tl_cons (m := 0) te_str tl_nil)))) ta_nil))) (ta_cons (te_var 6) ta_nil))))) (tb_one (ts_ret te_bl)) tb_nil) (
    tb_cons (ts_set 6 false (te_lst (tl_cons (m := 0) (te_add (te_add (te_add (te_add te_str (te_srep te_str te_int)) te_str) (te_srep te_str te_int)) te_str) (tl_cons (m := 0) (te_var 12) (tl_cons (m := 0) te_str (tl_cons (m := 0) (te_add (te_srep te_str te_int) te_str) tl_nil))))) nd_law) (
    tb_one (ts_ret (te_callD D__law_same hr (by rfl) (ta_cons (te_callD D_text_table hr (by rfl) (ta_cons (te_comp (own := [("row", 15)]) 0 rfl nd_law (ti_any (te_var 5)) (blkOk_by (N := N_law) (sc := defScope s_law) (own := [("row", 15)]) (by decide +kernel)) (fun _ _ _ _ _ => tg_name 15 nd_law) (fun _ _ _ _ _ => tts_nil) (fun _ _ _ _ _ => te_list (te_var 15) (by rfl) m_list)) (ta_cons (te_lst (tl_cons (m := 0) te_str (tl_cons (m := 0) te_str (tl_cons (m := 0) te_str tl_nil)))) ta_nil))) (ta_cons (te_var 6) ta_nil))))))))))))
end
end LW

namespace LW
open PySem PySem.Spec PyProof.Rows L2 AL
local macro_rules | `(tactic| walk_at "al") => `(tactic| simp only [↓br_t, ↓br_f, ↓br_not, ↓br_dec, ↓r_put0, ↓r_putS, ↓r_next, ↓r_pass, ↓r_brk, ↓r_cnt, ↓r_seq, ↓r_ret, ↓r_retN, ↓r_ifS, ↓r_var, ↓r_var0, ↓r_var1, ↓r_varb, ↓r_varS, ↓r_retV, ↓r_retV0, ↓r_retVS, ↓r_C, ↓r_w2, ↓r_w1, ↓r_tst, ↓r_tstK, ↓r_and, ↓r_or, ↓r_not, ↓r_yes, ↓r_if, ↓r_andV, ↓r_orV, ↓r_notV, ↓r_andK, ↓r_orK, ↓r_notK, ↓r_addI, ↓r_addS, ↓r_addL, ↓r_addLb, ↓r_addLc, ↓r_addLd, ↓r_addT, ↓r_sub, ↓r_mul, ↓r_div, ↓r_divN, ↓r_mod, ↓r_modN, ↓r_pow, ↓r_rep, ↓r_repb, ↓r_neg, ↓r_negK, ↓r_max2, ↓r_min2, ↓r_lt, ↓r_le, ↓r_gt, ↓r_ge, ↓r_eqI, ↓r_eqS, ↓r_eqB, ↓r_neI, ↓r_neS, ↓r_neB, ↓r_in, ↓r_notIn, ↓r_eqLL, ↓r_neLL, ↓r_eqLT, ↓r_neLT, ↓r_eqLN, ↓r_neLN, ↓r_eqLI, ↓r_neLI, ↓r_eqLS, ↓r_neLS, ↓r_eqLB, ↓r_neLB, ↓r_eqTL, ↓r_neTL, ↓r_eqTT, ↓r_neTT, ↓r_eqTN, ↓r_neTN, ↓r_eqTI, ↓r_neTI, ↓r_eqTS, ↓r_neTS, ↓r_eqTB, ↓r_neTB, ↓r_eqNL, ↓r_neNL, ↓r_eqNT, ↓r_neNT, ↓r_eqNN, ↓r_neNN, ↓r_eqNI, ↓r_neNI, ↓r_eqNS, ↓r_neNS, ↓r_eqNB, ↓r_neNB, ↓r_eqIL, ↓r_neIL, ↓r_eqIT, ↓r_neIT, ↓r_eqIN, ↓r_neIN, ↓r_eqIS, ↓r_neIS, ↓r_eqIB, ↓r_neIB, ↓r_eqSL, ↓r_neSL, ↓r_eqST, ↓r_neST, ↓r_eqSN, ↓r_neSN, ↓r_eqSI, ↓r_neSI, ↓r_eqSB, ↓r_neSB, ↓r_eqBL, ↓r_neBL, ↓r_eqBT, ↓r_neBT, ↓r_eqBN, ↓r_neBN, ↓r_eqBI, ↓r_neBI, ↓r_eqBS, ↓r_neBS, ↓r_isN, ↓r_notN, ↓r_isn_none, ↓r_non_none, ↓r_isn_bool, ↓r_non_bool, ↓r_isn_int, ↓r_non_int, ↓r_isn_str, ↓r_non_str, ↓r_isn_list, ↓r_non_list, ↓r_isn_tuple, ↓r_non_tuple, ↓r_isi, ↓r_isi_none_bool, ↓r_isi_none_int, ↓r_isi_none_str, ↓r_isi_none_list, ↓r_isi_none_tuple, ↓r_isi_bool_bool, ↓r_isi_bool_int, ↓r_isi_bool_str, ↓r_isi_bool_list, ↓r_isi_bool_tuple, ↓r_isi_int_bool, ↓r_isi_int_int, ↓r_isi_int_str, ↓r_isi_int_list, ↓r_isi_int_tuple, ↓r_isi_str_bool, ↓r_isi_str_int, ↓r_isi_str_str, ↓r_isi_str_list, ↓r_isi_str_tuple, ↓r_isi_list_bool, ↓r_isi_list_int, ↓r_isi_list_str, ↓r_isi_list_list, ↓r_isi_list_tuple, ↓r_isi_tuple_bool, ↓r_isi_tuple_int, ↓r_isi_tuple_str, ↓r_isi_tuple_list, ↓r_isi_tuple_tuple, ↓r_isBl_none, ↓r_isBl_bool_true, ↓r_isBl_bool_false, ↓r_isBl_int, ↓r_isBl_str, ↓r_isBl_list, ↓r_isBl_tuple, ↓r_notBl_none, ↓r_notBl_bool_true, ↓r_notBl_bool_false, ↓r_notBl_int, ↓r_notBl_str, ↓r_notBl_list, ↓r_notBl_tuple, ↓r_ixL, ↓r_ixT, ↓r_ixS, ↓r_md_o, ↓r_md_b, ↓r_scK_none, ↓r_scK_bool, ↓r_scK_int, ↓r_scK_str, ↓r_scK_list, ↓r_scK_tuple, ↓r_at0, ↓r_atl0, ↓r_atb0, ↓r_atT0, ↓r_atTb0, ↓r_atT1, ↓r_atTb1, ↓r_atT2, ↓r_atTb2, ↓r_atT3, ↓r_atT4, ↓r_sl, ↓r_slK, ↓r_on, ↓r_os, ↓r_osK, ↓r_aSlL, ↓r_aSlLb, ↓r_aSlT, ↓r_aSlS, ↓r_revL, ↓r_revK, ↓r_revKb, ↓r_ln, ↓r_lc, ↓r_lcK, ↓r_lst, ↓r_tup, ↓r_eOk0, ↓r_okK0, ↓r_set, ↓r_setO, ↓r_setN, ↓r_setb_none, ↓r_setb_bool, ↓r_setb_int, ↓r_setb_str, ↓r_fzK, ↓r_fz0, ↓r_fz00, ↓r_fzd, ↓r_fzS, ↓r_drop, ↓r_aug, ↓r_aug0, ↓r_augS, ↓r_iaddI, ↓r_iaddS, ↓r_app, ↓r_app0, ↓r_appS, ↓r_sat, ↓r_sat0, ↓r_satI, ↓r_satS, ↓r_gat, ↓r_gat0, ↓r_gatS, ↓r_augI, ↓r_an, ↓r_av, ↓r_avO, ↓r_avb_none, ↓r_avb_bool, ↓r_avb_int, ↓r_avb_str, ↓r_avb_list, ↓r_avb_tuple, ↓r_as, ↓r_as0, ↓r_asS, ↓r_ab, ↓r_ab0, ↓r_abS, ↓r_ub0, ↓r_ubV, ↓r_ubB, ↓r_ubX, ↓r_ubY, ↓r_call, ↓r_cl0, ↓r_clV, ↓r_clB, ↓r_clX, ↓r_clY, ↓r_draw, ↓r_lenL, ↓r_lenT, ↓r_lenS, ↓r_int, ↓r_intB, ↓r_listL, ↓r_listLb, ↓r_listT, ↓r_tupL, ↓r_tupLb, ↓r_tupT, ↓r_sum, ↓r_max, ↓r_min, ↓r_any, ↓r_all, ↓r_abs, ↓r_str, ↓r_reprI, ↓r_reprS, ↓r_lenScr, ↓r_lenScr0, ↓r_atScr, ↓r_atScr0, ↓r_atSI, ↓r_chn, ↓r_chn1, ↓r_chn2, ↓r_chn3, ↓br_cLt, ↓br_cLe, ↓br_cGt, ↓br_cGe, ↓r_R1, ↓r_rgK, ↓r_R2, ↓r_rgK2, ↓r_lstR, ↓r_tupR, ↓r_iter, ↓r_itL, ↓r_itLb, ↓r_itT, ↓r_itTb, ↓r_itS, ↓r_rng1, ↓r_rn1K, ↓r_rng2, ↓r_rn2K, ↓r_rngD, ↓r_rnDK, ↓r_enum, ↓r_enK, ↓r_enKb, ↓r_zip, ↓r_zpL, ↓r_zpLb, ↓r_zpLc, ↓r_zpT, ↓r_rev, ↓r_rvL, ↓r_rvLb, ↓r_rvT, ↓r_revR, ↓r_gNm, ↓r_nmO, ↓r_nmb_none, ↓r_nmb_bool, ↓r_nmb_int, ↓r_nmb_str, ↓r_nmb_list, ↓r_nmb_tuple, ↓r_gTp, ↓r_gNl, ↓r_gCsO, ↓r_gCsB, ↓r_asg, ↓r_for, ↓r_forK, ↓r_whl, ↓r_wip0, ↓r_wipS, ↓r_comp, ↓r_compN, ↓r_cmpK, ↓r_itmO, ↓r_itmB, ↓r_eAccS, ↓r_eAccN, ↓r_sortL, ↓r_sortLb, ↓br_iff, ↓r_wM1, ↓r_m1K, ↓r_starts, ↓r_ends, ↓r_find, ↓r_count, ↓r_rstrip, ↓r_lstrip, ↓r_strip, ↓r_ljust, ↓r_rjust, ↓r_join, ↓r_sRep, ↓r_idx, ↓r_idK, ↓r_insert, ↓r_ins0, ↓r_insS, ↓r_insJ, ↓r_pop, ↓r_setPop, ↓r_pop0, ↓r_popS, ↓r_popJ, ↓r_eOkS, ↓r_extend, ↓r_ext0, ↓r_extS, ↓r_exJ, ↓r_exJb, ↓r_aap, ↓r_aa0, ↓r_aaS, ↓r_aaJ, ↓r_s2, ↓r_s20, ↓r_s2S, ↓r_s2J, ↓r_s2J2, ↓r_wM2, ↓r_m2K, ↓r_starts3, ↓r_sumAL, ↓r_sumAT, ↓r_bestL, ↓r_bestT, ↓r_repT, ↓r_intS, ↓r_ali, ↓r_ali0, ↓r_aliS, ↓r_aliJ, ↓r_DD, ↓r_atO, ↓r_ato0, ↓r_atoS, ↓r_atoJ, ↓r_enumA, ↓r_enA2, ↓r_enA2b, ↓r_enA2t, ↓r_enA2tb, ↓r_sixK, ↓r_tidx, ↓r_tiK, ↓r_comp2, ↓r_cmp2K, ↓r_isOo, ↓r_never, ↓r_dnew, ↓r_datI, ↓r_datS, ↓r_dinI, ↓r_dinS, ↓r_dninI, ↓r_dninS, ↓r_dput, ↓r_dput0, ↓r_dputS, ↓r_dputI, ↓r_dputT, ↓r_wPn, ↓r_wPc, ↓r_ppI, ↓r_ppS, ↓r_dsp, ↓r_get2, ↓r_get2K, ↓r_get2I, ↓r_get2S, ↓r_lenD, ↓r_lenDK, ↓r_dcomp, ↓r_dcK, ↓r_rngC, ↓r_rcK, ↓r_tupR3, ↓r_t3K, ↓r_pad3, ↓r_zipM, ↓r_zmL, ↓r_zmLb, ↓r_zmLc, ↓r_zip3, ↓r_z3L, true_and, and_true, decide_true, decide_false, true_or, or_true, or_false, false_or, eq_self, inB, Int.reduceLT, Int.reduceLE, Int.reduceToNat, Int.reduceNeg, Nat.reducePow, Int.reducePow, Int.reduceAdd, Int.reduceSub, Int.reduceMul, Int.reduceEq, Int.reduceMod, Int.reduceDiv, Nat.reduceMul, Nat.reduceSub, Nat.reduceEqDiff, Int.reduceGT, Int.reduceGE, false_and, and_false, imp_false, true_implies, false_implies, implies_true, not_true_eq_false, Bool.not_true, Bool.not_false, not_false_eq_true, List.length_cons, List.length_nil, Nat.zero_add, Nat.reduceAdd, Nat.reduceLeDiff, Nat.reduceLT, PyData.bool.injEq, Bool.true_eq_false, Bool.false_eq_true, reduceCtorEq, Option.some.injEq, List.length_map, List.length_range, List.length_reverse, List.length_append, Int.toNat_natCast, Int.zero_add, Int.mul_one, PyData.int.injEq, z_le0, z_lt0, zc_0, z_le1, z_lt1, zc_1, z_le2, z_lt2, zc_2, z_le3, z_lt3, zc_3, z_le4, z_lt4, zc_4, z_le5, z_lt5, zc_5, z_le6, z_lt6, zc_6, z_le7, z_lt7, zc_7, z_le8, z_lt8, zc_8, z_le9, z_lt9, zc_9, z_le10, z_lt10, zc_10, z_le11, z_lt11, zc_11, z_le12, z_lt12, zc_12, z_le13, z_lt13, zc_13, z_le14, z_lt14, zc_14, z_le15, z_lt15, zc_15, z_le16, z_lt16, zc_16])
def aspCell : ASp := fun as Q => match as with
  | [.scr ns, .val (.int k) (.o 0)] => ns.length ≤ 63 ∧ 0 ≤ k ∧ ∀ z : Int, Q (.int z) (.o 0)
  | _ => False
theorem r_cell {ns : List Int} {k : Int} {Q : QE} {t : Tg Q} : CallK aspCell [.scr ns, .val (.int k) (.o 0)] Q t = (ns.length ≤ 63 ∧ 0 ≤ k ∧ ∀ z : Int, Q (.int z) (.o 0)) := rfl
theorem h_cell : ∀ as Q, as.length = 2 → aspCell as Q → w__law_cell { nx := fun _ => Q .none (.o 0), rt := Q } (pad N__law_cell.length as) := by
  intro as Q hln h
  clear hln
  unfold aspCell at h
  split at h
  · rename_i ns k
    obtain ⟨hl, hk, hq⟩ := h
    show w__law_cell _ [.scr ns, .val (.int k) (.o 0)]
    unfold w__law_cell
    walk_at "al"
    refine ⟨by show ns.length ≤ 2 ^ 24; omega, fun h => ?_, fun _ => hq 0⟩
    obtain ⟨j, rfl⟩ := Int.eq_ofNat_of_zero_le hk
    have : j < ns.length := by omega
    exact atz_ (by rw [atI_k, List.getElem?_eq_getElem this]) (hq _)
  · exact h.elim
theorem szv : sizeLine = 16777216 := rfl
theorem atI_rng {f : Nat → PyData} {n i : Nat} (h : i < n) : atI ((List.range n).map f) (i : Int) = some (f i) := by
  rw [atI_k, List.getElem?_map, List.getElem?_range h]
  rfl
theorem rng_app {f : Nat → PyData} {n : Nat} : (List.range n).map f ++ [f n] = (List.range (n + 1)).map f := by rw [List.range_succ, List.map_append]; rfl
theorem cut_init {α : Type} (xs : List α) : cut xs none (some (-1)) = xs.dropLast := by
  unfold cut
  rw [HT.sIx_none, List.drop_zero]
  have : HT.sIx xs.length xs.length (some (-1)) = xs.length - 1 := by
    unfold HT.sIx
    simp
    omega
  rw [this, Nat.sub_zero, List.dropLast_eq_take]
theorem atI_end {α : Type} (xs : List α) (x : α) : atI (xs ++ [x]) (-1) = some x := by
  unfold atI ixN
  rw [if_neg (by decide), if_pos (by rw [List.length_append]; simp; omega)]
  show (xs ++ [x])[((-1 : Int) + ((xs ++ [x]).length : Nat)).toNat]? = some x
  rw [show ((-1 : Int) + ((xs ++ [x]).length : Nat)).toNat = xs.length by rw [List.length_append]; simp; omega]
  simp
theorem map_app1 {α β : Type} (f : α → β) (xs : List α) (x : α) : xs.map f ++ [f x] = (xs ++ [x]).map f := by rw [List.map_append]; rfl
theorem h_digits : ∀ as Q, as.length = 3 → aspDigits as Q → w__law_digits aspCell { nx := fun _ => Q .none (.o 0), rt := Q } (pad N__law_digits.length as) := by
  intro as Q hln h
  clear hln
  obtain ⟨ns, a, b, rfl, hl, ha, hb, hb2, hq⟩ := h
  show w__law_digits _ _ [.scr ns, .val (.int a) (.o 0), .val (.int b) (.o 0), .dead, .dead, .dead, .dead, .dead]
  unfold w__law_digits
  walk_at "al"
  refine ⟨by omega, by omega, ?_⟩
  refine for_rng (fun i st => ∃ (ds : List Int) (x4 x5 x6 x7 : SV), st = [.scr ns, .val (.int a) (.o 0), .val (.int b) (.o 0), .val (.list (ds.map .int)) (.o 1), x4, x5, x6, x7] ∧ ds.length ≤ 60 * i) ⟨[], .dead, .dead, .dead, .dead, rfl, by simp⟩ ?_ ?_
  · rintro i st hi ⟨ds, x4, x5, x6, x7, rfl, hd⟩
    have hi' : i < 1000 := by omega
    walk_at "al"
    simp only [r_cell]
    refine ⟨hl, by omega, fun z => ?_⟩
    walk_at "al"
    have hi0 : i + 1 ≤ 1000 := by omega
    refine ⟨fun _ => ⟨fun _ => ?b1, fun _ => ?s1⟩, fun _ => ⟨fun _ => ?b2, fun _ => ?s2⟩⟩
    case b1 | b2 =>
      refine for_r1 (fun j st => ∃ (ds' : List Int) (z : Int) (x6 x7 : SV), st = [.scr ns, .val (.int a) (.o 0), .val (.int b) (.o 0), .val (.list (ds'.map .int)) (.o 1), .val (.int (a + i)) (.o 0), .val (.int z) (.o 0), x6, x7] ∧ ds'.length ≤ 60 * i + j) ⟨ds, _, _, _, rfl, by omega⟩ ?_ ?_
      · rintro j st hj ⟨ds', z, x6, x7, rfl, hd'⟩
        walk_at "al"
        exact ⟨fun _ => ⟨by rw [szv]; omega, ds' ++ [z % 1000], _, _, _, by rw [map_app1], by simp; omega⟩, fun _ => ⟨ds', _, _, _, rfl, by omega⟩⟩
      · rintro st ⟨ds', z, x6, x7, rfl, hd'⟩
        exact ⟨ds', _, _, _, _, rfl, by omega⟩
    case s1 | s2 =>
      refine for_r1 (fun j st => ∃ (ds' : List Int) (z s : Int) (x6 : SV), st = [.scr ns, .val (.int a) (.o 0), .val (.int b) (.o 0), .val (.list (ds'.map .int)) (.o 1), .val (.int (a + i)) (.o 0), .val (.int z) (.o 0), x6, .val (.int s) (.o 0)] ∧ ds'.length ≤ 60 * i + j) ⟨ds, _, _, _, rfl, by omega⟩ ?_ ?_
      · rintro j st hj ⟨ds', z, s, x6, rfl, hd'⟩
        walk_at "al"
        exact ⟨by rw [szv]; omega, ds' ++ [_], _, _, _, by rw [map_app1], by simp; omega⟩
      · rintro st ⟨ds', z, s, x6, rfl, hd'⟩
        exact ⟨ds', _, _, _, _, rfl, by omega⟩
  · rintro st ⟨ds, x4, x5, x6, x7, rfl, hd⟩
    walk_at "al"
    exact hq ds
def aspPick : ASp := fun as Q => match as with
  | [.box, .val (.list ds) (.o 0)] => ds ≠ [] ∧ ds.length < 1000000 ∧ ∀ d ∈ ds, Q d (.o 0)
  | [.box, .val (.tuple ds) (.o 0)] => ds ≠ [] ∧ ds.length < 1000000 ∧ ∀ d ∈ ds, Q d (.o 0)
  | [.box, .val (.str z) (.o 0)] => z.cps.toList ≠ [] ∧ z.length < 1000000 ∧ ∀ c ∈ z.cps.toList, Q (.str ⟨#[c]⟩) (.o 0)
  | _ => False
theorem r_pickL {ds : List PyData} {Q : QE} {t : Tg Q} : CallK aspPick [.box, .val (.list ds) (.o 0)] Q t = (ds ≠ [] ∧ ds.length < 1000000 ∧ ∀ d ∈ ds, Q d (.o 0)) := rfl
theorem r_pickT {ds : List PyData} {Q : QE} {t : Tg Q} : CallK aspPick [.box, .val (.tuple ds) (.o 0)] Q t = (ds ≠ [] ∧ ds.length < 1000000 ∧ ∀ d ∈ ds, Q d (.o 0)) := rfl
theorem r_pickS {z : Str} {Q : QE} {t : Tg Q} : CallK aspPick [.box, .val (.str z) (.o 0)] Q t = (z.cps.toList ≠ [] ∧ z.length < 1000000 ∧ ∀ c ∈ z.cps.toList, Q (.str ⟨#[c]⟩) (.o 0)) := rfl
theorem atI_mod {α : Type} {xs : List α} {r : Int} (h : xs ≠ []) : ∃ d ∈ xs, atI xs (r % (xs.length : Int)) = some d := by
  have h0 : 0 < xs.length := List.length_pos_iff.mpr h
  have h1 : 0 ≤ r % (xs.length : Int) := Int.emod_nonneg _ (by omega)
  have h2 : r % (xs.length : Int) < xs.length := Int.emod_lt_of_pos _ (by omega)
  obtain ⟨j, e⟩ := Int.eq_ofNat_of_zero_le h1
  rw [e] at h2 ⊢
  have hj : j < xs.length := by omega
  exact ⟨xs[j], List.getElem_mem hj, by rw [atI_k, List.getElem?_eq_getElem hj]⟩
theorem h_pick : ∀ as Q, as.length = 2 → aspPick as Q → w__law_pick aspDraw { nx := fun _ => Q .none (.o 0), rt := Q } (pad N__law_pick.length as) := by
  intro as Q hln h
  clear hln
  unfold aspPick at h
  split at h
  · rename_i ds
    obtain ⟨h0, h1, hq⟩ := h
    have hp : 0 < ds.length := List.length_pos_iff.mpr h0
    show w__law_pick _ _ [.box, .val (.list ds) (.o 0)]
    unfold w__law_pick
    walk_at "al"
    intro r r0 r1
    obtain ⟨d, hd, e⟩ := atI_mod (r := r) h0
    exact ⟨by omega, at_ e (hq d hd)⟩
  · rename_i ds
    obtain ⟨h0, h1, hq⟩ := h
    have hp : 0 < ds.length := List.length_pos_iff.mpr h0
    show w__law_pick _ _ [.box, .val (.tuple ds) (.o 0)]
    unfold w__law_pick
    walk_at "al"
    intro r r0 r1
    obtain ⟨d, hd, e⟩ := atI_mod (r := r) h0
    exact ⟨by omega, att_ e (hq d hd)⟩
  · rename_i z
    obtain ⟨h0, h1, hq⟩ := h
    have hp : 0 < z.cps.toList.length := List.length_pos_iff.mpr h0
    have hz : z.cps.toList.length = z.length := rfl
    show w__law_pick _ _ [.box, .val (.str z) (.o 0)]
    unfold w__law_pick
    walk_at "al"
    intro r r0 r1
    obtain ⟨d, hd, e⟩ := atI_mod (r := r) h0
    rw [hz] at e
    exact ⟨by rw [szv]; omega, by omega, by rw [szv]; omega, ats_ e (hq d hd)⟩
  · exact h.elim
def smOk : Nat → PyData → Prop
  | 0, _ => False
  | n + 1, d => match d with
    | .none => True
    | .bool _ => True
    | .int i => i.natAbs < 2 ^ 1920
    | .str z => (reprText z).length ≤ sizeLine
    | .list ds => ds.length ≤ sizeLine ∧ ∀ e ∈ ds, smOk n e
    | .tuple ds => ds.length ≤ sizeLine ∧ ∀ e ∈ ds, smOk n e
    | _ => False
theorem smOk_i {n : Nat} {i : Int} (h : i.natAbs < 2 ^ 64) : smOk (n + 1) (.int i) := Nat.lt_of_lt_of_le h (Nat.pow_le_pow_right (by decide) (by decide))
theorem smOk_l {n : Nat} {ds : List PyData} (h : ds.length ≤ sizeLine) (h2 : ∀ e ∈ ds, smOk n e) : smOk (n + 1) (.list ds) := ⟨h, h2⟩
theorem smOk_t {n : Nat} {ds : List PyData} (h : ds.length ≤ sizeLine) (h2 : ∀ e ∈ ds, smOk n e) : smOk (n + 1) (.tuple ds) := ⟨h, h2⟩
theorem smOk_s {n : Nat} {z : Str} (h : (reprText z).length ≤ sizeLine) : smOk (n + 1) (.str z) := h
theorem smOk_b {n : Nat} {k : Bool} : smOk (n + 1) (.bool k) := trivial
theorem smOk_n {n : Nat} : smOk (n + 1) .none := trivial
def aspSame (n : Nat) : ASp := fun as Q => match as with
  | [.val a (.o 0), .val b (.o 0)] => a = b ∧ smOk n b ∧ Q (.bool true) (.o 0)
  | _ => False
theorem r_same {n : Nat} {a b : PyData} {Q : QE} {t : Tg Q} : CallK (aspSame n) [.val a (.o 0), .val b (.o 0)] Q t = (a = b ∧ smOk n b ∧ Q (.bool true) (.o 0)) := rfl
theorem aspSame_0 : ∀ as Q, aspSame 0 as Q → False := by
  intro as Q h
  unfold aspSame at h
  split at h
  · exact h.2.1
  · exact h
theorem h_same (n : Nat) : ∀ as Q, as.length = 2 → aspSame (n + 1) as Q → w__law_same (aspSame n) { nx := fun _ => Q .none (.o 0), rt := Q } (pad N__law_same.length as) := by
  intro as Q hln h
  clear hln
  unfold aspSame at h
  split at h
  · rename_i a b
    obtain ⟨rfl, ho, hq⟩ := h
    show w__law_same _ _ [.val a (.o 0), .val a (.o 0), .dead]
    unfold w__law_same
    have go : ∀ (c : List PyData → PyData) (ds : List PyData), (∀ e ∈ ds, smOk n e) → ∀ (g : WG) (b : WS) (D : AEnds), g = gNm 2 → (∀ (i : Nat) (e : PyData), ds[i]? = some e → i < ds.length → ∀ D : AEnds, (∀ x, D.nx [.val (c ds) (.o 0), .val (c ds) (.o 0), x]) → b D [.val (c ds) (.o 0), .val (c ds) (.o 0), .val (.int (i : Nat)) (.o 0)]) →
        (∀ x, D.nx [.val (c ds) (.o 0), .val (c ds) (.o 0), x]) → ForP g b D (rngs 0 1 ds.length) [.val (c ds) (.o 0), .val (c ds) (.o 0), .dead] (tg D) := by
      intro c ds hd g b D eg hb hD
      subst eg
      refine for_r1 (fun i st => ∃ x, st = [.val (c ds) (.o 0), .val (c ds) (.o 0), x]) ⟨_, rfl⟩ ?_ ?_
      · rintro i st hi ⟨x, rfl⟩
        walk_at "al"
        exact hb i ds[i] (List.getElem?_eq_getElem hi) hi _ fun x => ⟨x, rfl⟩
      · rintro st ⟨x, rfl⟩
        exact hD x
    cases a with
    | none => walk_at "al"; exact hq
    | bool k =>
      cases k
      · walk_at "al"; exact hq
      · walk_at "al"; exact hq
    | int i => walk_at "al"; exact ⟨ho, ho, hq⟩
    | str z => walk_at "al"; exact ⟨ho, ho, hq⟩
    | list ds =>
      obtain ⟨hl, hd⟩ := ho
      rw [szv] at hl
      walk_at "al"
      refine ⟨by omega, ?_⟩
      refine go PyData.list ds hd _ _ _ rfl (fun i e he hi D hD => ?_) (fun x => ?_)
      · walk_at "al"
        refine at_0 (by rw [atI_k, he]) ?_
        walk_at "al"
        refine at_0 (by rw [atI_k, he]) ?_
        walk_at "al"
        simp only [r_same]
        refine ⟨trivial, hd e (List.mem_of_getElem? he), ?_⟩
        walk_at "al"
        exact hD _
      · walk_at "al"
        exact hq
    | tuple ds =>
      obtain ⟨hl, hd⟩ := ho
      rw [szv] at hl
      walk_at "al"
      refine ⟨by omega, ?_⟩
      refine go PyData.tuple ds hd _ _ _ rfl (fun i e he hi D hD => ?_) (fun x => ?_)
      · walk_at "al"
        refine att_0 (by rw [atI_k, he]) ?_
        walk_at "al"
        refine att_0 (by rw [atI_k, he]) ?_
        walk_at "al"
        simp only [r_same]
        refine ⟨trivial, hd e (List.mem_of_getElem? he), ?_⟩
        walk_at "al"
        exact hD _
      · walk_at "al"
        exact hq
    | dict _ => exact ho.elim
  · exact h.elim
end LW

namespace LW
open PySem PySem.Spec PyProof.Rows L2 AL
section
variable {P : Program} {w : World} {K : PySem.W.Frag} {mg : Str → Option Value} {base : Heap}
theorem h_draw {f : Addr} {fd : FuncData} (F : Fun K "_law_draw" "_law_draw" s__law_draw f fd) (m_int : mg "int" = none) (m_len : mg "len" = none) : FnOk P w K mg base CX0 1 f fd ["box", "many"] (spOf K 2 aspDraw) := by
  refine draw_ok F sc__law_draw fun cdv A outer s H E hr => ?_
  refine ⟨_, pss_cons (ps_asg (pe_op op_add (pe_ix ix_list (pe_var (i := 0) rfl (Or.inl rfl)) pe_int (fun _ _ => rfl)) pe_int) (pg_sub (pe_var (i := 0) rfl (Or.inl rfl)) pe_int set_list))
    (pss_cons (ps_if (pt_cmpR op_gt (pe_ix ix_list (pe_var (i := 0) rfl (Or.inl rfl)) pe_int (fun _ _ => rfl)) (pe_callB call_len_seq (by rfl) m_len PySem.boot_len (pa_cons (pe_ix ix_list (pe_var (i := 0) rfl (Or.inl rfl)) pe_int (fun _ _ => rfl)) pa_nil)) (by rfl))
      (pss_one (ps_ret (pe_op op_mod (pe_callTy call_int1 (by rfl) m_int (by rfl) (pa_cons (pe_op op_add (pe_op op_mul (pe_ix ix_list (pe_var (i := 0) rfl (Or.inl rfl)) pe_int (fun _ _ => rfl)) pe_int) pe_int) pa_nil)) (pe_var (i := 1) rfl (Or.inl rfl)))))
      pss_nil)
    (pss_one (ps_ret (pe_op op_mod (pe_callTy call_int1 (by rfl) m_int (by rfl) (pa_cons (pe_ix ix_list (pe_ix ix_list (pe_var (i := 0) rfl (Or.inl rfl)) pe_int (fun _ _ => rfl)) (pe_op op_sub (pe_ix ix_list (pe_var (i := 0) rfl (Or.inl rfl)) pe_int (fun _ _ => rfl)) pe_int) (fun _ _ => rfl)) pa_nil)) (pe_var (i := 1) rfl (Or.inl rfl)))))), ?_⟩
  intro b A' xs k n σ H D h0 h1 k0 n0 hne hb hA q
  have rd1 : ∀ (j : Int) (H' : Hp) (Q : VK), H' b = some (.lst [.ref A', .int j]) → Q (.int j) H' → tOp (rIxL K) (tVar 0) (tC (.int 1)) σ H' Q := fun j H' Q hb q => ⟨_, h0, b, _, 1, _, rfl, rfl, SqL.of hb, rfl, q⟩
  have rd0 : ∀ (j : Int) (H' : Hp) (Q : VK), H' b = some (.lst [.ref A', .int j]) → Q (.ref A') H' → tOp (rIxL K) (tVar 0) (tC (.int 0)) σ H' Q := fun j H' Q hb q => ⟨_, h0, b, _, 0, _, rfl, rfl, SqL.of hb, rfl, q⟩
  have hb2 : upd H b (.lst [.ref A', .int (k + 1)]) b = some (.lst [.ref A', .int (k + 1)]) := upd_same
  have hA2 : SqL K (upd H b (.lst [.ref A', .int (k + 1)])) A' (xs.map V.int) := by
    rcases hA with (h | ⟨o, h⟩) | h
    · exact .inl (.inl (by rw [upd_ne (Ne.symm hne)]; exact h))
    · exact .inl (.inr ⟨o, by rw [upd_ne (Ne.symm hne)]; exact h⟩)
    · exact .inr h
  have md : ∀ x : Int, 0 ≤ x % n ∧ x % n < n := fun x => ⟨Int.emod_nonneg _ (by omega), Int.emod_lt_of_pos _ n0⟩
  refine rd1 k H _ hb ⟨k, 1, rfl, rfl, ?_⟩
  refine ⟨_, h0, b, _, 1, 1, rfl, rfl, hb, rfl, ?_⟩
  refine rd1 (k + 1) _ _ hb2 (rd0 (k + 1) _ _ hb2 ?_)
  refine ⟨A', _, rfl, .inl hA2, k + 1, _, rfl, rfl, _, rfl, ?_⟩
  rw [List.length_map]
  by_cases hc : (xs.length : Int) < k + 1
  · rw [decide_eq_true hc]
    refine iteT ?_
    refine rd1 (k + 1) _ _ hb2 ⟨k + 1, 7, rfl, rfl, .inr ⟨by omega, by omega⟩, _, 3, rfl, rfl, .inl ⟨_, rfl, _, h1, _, _, rfl, rfl, n0, q _ (md _).1 (md _).2⟩⟩
  · rw [decide_eq_false hc]
    refine iteF ?_
    refine rd0 (k + 1) _ _ hb2 (rd1 (k + 1) _ _ hb2 ⟨k + 1, 1, rfl, rfl, ?_⟩)
    obtain ⟨j, rfl⟩ := Int.eq_ofNat_of_zero_le k0
    have hj : j < xs.length := by omega
    refine ⟨A', _, _, .int xs[j], rfl, rfl, hA2, ?_, .inl ⟨_, rfl, _, h1, _, _, rfl, rfl, n0, q _ (md _).1 (md _).2⟩⟩
    rw [show (j : Int) + 1 - 1 = (j : Nat) by omega, atI_k, List.getElem?_map, List.getElem?_eq_getElem hj]
    rfl
end
end LW

namespace LW
open PySem PySem.Spec PyProof.Rows L2 AL
def lead (L room sd : Nat) : Nat := if sd = 0 then 0 else if sd = 1 then room - L else (room - L) / 2
def bl (n : Nat) : List Nat := List.replicate n 32
def part (z : List Nat) (room sd : Nat) : List Nat := bl (lead z.length room sd) ++ z ++ bl (room - z.length - lead z.length room sd)
abbrev Cell := List Nat × Nat × Nat
def qs : List Cell → List Nat
  | [] => []
  | c :: r => part c.1 c.2.1 c.2.2 ++ [32, 32] ++ qs r
def cstep (s : List Nat × Nat) (c : Cell) : List Nat × Nat := (if c.1 = [] then s.1 else s.1 ++ bl (s.2 + lead c.1.length c.2.1 c.2.2 - s.1.length) ++ c.1, s.2 + c.2.1 + 2)
def NB (l : List Nat) : Prop := ∀ a c, l = a ++ [c] → c ≠ 32
theorem bl_app (a b : Nat) : bl a ++ bl b = bl (a + b) := List.replicate_append_replicate
theorem bl_len (a : Nat) : (bl a).length = a := List.length_replicate
theorem lead_le {L room sd : Nat} : lead L room sd ≤ room - L := by
  unfold lead
  split
  · omega
  · split <;> omega
theorem part_len {z : List Nat} {room sd : Nat} (h : z.length ≤ room) : (part z room sd).length = room := by
  have := lead_le (L := z.length) (room := room) (sd := sd)
  unfold part
  rw [List.length_append, List.length_append, bl_len, bl_len]
  omega
theorem NB_app {a z : List Nat} (hz : NB z) (hn : z ≠ []) : NB (a ++ z) := by
  intro x c e
  rcases List.eq_nil_or_concat z with rfl | ⟨y, d, rfl⟩
  · exact absurd rfl hn
  · rw [List.concat_eq_append] at e hz
    rw [← List.append_assoc] at e
    have := (List.append_inj' e rfl).2
    have e2 : d = c := by simpa using this
    rw [← e2]
    exact hz y d rfl
theorem cols : ∀ (cs : List Cell) (S : List Nat) (b m : Nat) (Q : List Nat), (∀ c ∈ cs, c.1.length ≤ c.2.1 ∧ NB c.1) → Q = S ++ bl m → Q.length = b → NB S →
    ∃ m', Q ++ qs cs = (cs.foldl cstep (S, b)).1 ++ bl m' ∧ NB (cs.foldl cstep (S, b)).1 ∧ (Q ++ qs cs).length = (cs.foldl cstep (S, b)).2
  | [], S, b, m, Q, _, e, l, n => ⟨m, by rw [qs, List.append_nil]; exact e, n, by rw [qs, List.append_nil]; exact l⟩
  | c :: cs, S, b, m, Q, h, e, l, n => by
    obtain ⟨h1, h2⟩ := h c (List.mem_cons_self ..)
    rw [List.foldl_cons, qs, ← List.append_assoc]
    have hle := lead_le (L := c.1.length) (room := c.2.1) (sd := c.2.2)
    have hl : (Q ++ (part c.1 c.2.1 c.2.2 ++ [32, 32])).length = b + c.2.1 + 2 := by
      rw [List.length_append, List.length_append, part_len h1, l]
      rfl
    have hbm : b = S.length + m := by rw [← l, e, List.length_append, bl_len]
    have two : ([32, 32] : List Nat) = bl 2 := rfl
    by_cases z : c.1 = []
    · have hs : cstep (S, b) c = (S, b + c.2.1 + 2) := by unfold cstep; rw [if_pos z]
      rw [hs]
      refine cols cs S _ (m + c.2.1 + 2) _ (fun d hd => h d (List.mem_cons_of_mem _ hd)) ?_ hl n
      rw [z] at hle
      rw [e, part, z, two, List.append_nil, bl_app, bl_app, List.append_assoc, bl_app]
      congr 2
      simp at hle ⊢
      omega
    · have hs : cstep (S, b) c = (S ++ bl (b + lead c.1.length c.2.1 c.2.2 - S.length) ++ c.1, b + c.2.1 + 2) := by unfold cstep; rw [if_neg z]
      rw [hs]
      refine cols cs _ _ (c.2.1 - c.1.length - lead c.1.length c.2.1 c.2.2 + 2) _ (fun d hd => h d (List.mem_cons_of_mem _ hd)) ?_ hl (NB_app h2 z)
      rw [e, part, two, show b + lead c.1.length c.2.1 c.2.2 - S.length = m + lead c.1.length c.2.1 c.2.2 by omega, ← bl_app m, ← bl_app (c.2.1 - c.1.length - lead c.1.length c.2.1 c.2.2) 2]
      simp only [List.append_assoc]
theorem off2 {X S : List Nat} {m : Nat} (h : X ++ [32, 32] = S ++ bl m) (n : NB S) : ∃ m', X = S ++ bl m' := by
  match m with
  | 0 =>
    exfalso
    rw [show bl 0 = [] from rfl, List.append_nil] at h
    exact n (X ++ [32]) 32 (by rw [← h]; simp) rfl
  | 1 =>
    exfalso
    have e : X ++ [32] ++ [32] = S ++ [32] := by rw [show bl 1 = [32] from rfl] at h; rw [← h]; simp
    have := (List.append_inj' e rfl).1
    exact n X 32 this.symm rfl
  | k + 2 =>
    refine ⟨k, ?_⟩
    have e : X ++ [32, 32] = S ++ bl k ++ [32, 32] := by rw [h, ← bl_app k 2, ← List.append_assoc]; rfl
    exact (List.append_inj' e rfl).1
def jn2 : List (List Nat) → List Nat
  | [] => []
  | [p] => p
  | p :: q :: r => p ++ ([32, 32] ++ jn2 (q :: r))
theorem jn_qs : ∀ (cs : List Cell), cs ≠ [] → jn2 (cs.map fun c => part c.1 c.2.1 c.2.2) ++ [32, 32] = qs cs
  | [], h => absurd rfl h
  | [c], _ => by simp [jn2, qs]
  | c :: d :: r, _ => by
    have := jn_qs (d :: r) (by simp)
    rw [List.map_cons, List.map_cons, jn2, qs, ← this]
    simp
def lws (cs : List Cell) : List Nat := (cs.foldl cstep ([], 0)).1
theorem line_ok (cs : List Cell) (hn : cs ≠ []) (h : ∀ c ∈ cs, c.1.length ≤ c.2.1 ∧ NB c.1) : ∃ m, jn2 (cs.map fun c => part c.1 c.2.1 c.2.2) = lws cs ++ bl m ∧ NB (lws cs) := by
  obtain ⟨m, h1, h2, _⟩ := cols cs [] 0 0 [] h rfl rfl (fun a c e => by cases a <;> cases e)
  rw [List.nil_append, ← jn_qs cs hn] at h1
  obtain ⟨m', h3⟩ := off2 h1 h2
  exact ⟨m', h3, h2⟩
theorem lws_len : ∀ (cs : List Cell) (S : List Nat) (b : Nat), S.length ≤ b → (∀ c ∈ cs, c.1.length ≤ c.2.1) → (cs.foldl cstep (S, b)).1.length ≤ (cs.foldl cstep (S, b)).2 ∧ (cs.foldl cstep (S, b)).2 = b + (cs.map fun c => c.2.1 + 2).sum
  | [], S, b, h, _ => ⟨h, by simp⟩
  | c :: cs, S, b, h, hc => by
    rw [List.foldl_cons]
    have h1 := hc c (List.mem_cons_self ..)
    have hle := lead_le (L := c.1.length) (room := c.2.1) (sd := c.2.2)
    have h2 : (cstep (S, b) c).1.length ≤ (cstep (S, b) c).2 := by
      unfold cstep
      split
      · show S.length ≤ b + c.2.1 + 2; omega
      · show (S ++ bl _ ++ c.1).length ≤ b + c.2.1 + 2
        rw [List.length_append, List.length_append, bl_len]
        show S.length + (b + lead c.1.length c.2.1 c.2.2 - S.length) + c.1.length ≤ _
        omega
    obtain ⟨a1, a2⟩ := lws_len cs _ _ h2 fun d hd => hc d (List.mem_cons_of_mem _ hd)
    refine ⟨a1, ?_⟩
    rw [show cs.foldl cstep (cstep (S, b) c) = cs.foldl cstep ((cstep (S, b) c).1, (cstep (S, b) c).2) from rfl, a2]
    show b + c.2.1 + 2 + _ = _
    rw [List.map_cons, List.sum_cons]
    omega
end LW

namespace LW
open PySem PySem.Spec PyProof.Rows L2 AL
theorem app_cps (a b : Str) : (a ++ b).cps.toList = a.cps.toList ++ b.cps.toList := by rw [Str.cps_append]; simp
theorem len_cps (a : Str) : a.cps.toList.length = a.length := by simp [Str.length]
theorem str_ext {a b : Str} (h : a.cps.toList = b.cps.toList) : a = b := PySem.W.str_of_cps h
abbrev tx (l : List Nat) : Str := ⟨l.toArray⟩
theorem tx_cat (a b : List Nat) : tx a ++ tx b = tx (a ++ b) := str_ext (by rw [app_cps])
theorem tx_len (a : List Nat) : (tx a).length = a.length := by rw [← len_cps]
theorem tx_inj {a b : List Nat} (h : tx a = tx b) : a = b := congrArg (fun x : Str => x.cps.toList) h
theorem emp : ("" : Str) = tx [] := str_ext rfl
theorem str_tx (z : Str) : z = tx z.cps.toList := str_ext rfl
theorem rstrip_at {A B y : Str} (hB : ∀ c ∈ B.cps.toList, y.cps.contains c = true) (hA : ∀ l c, A.cps.toList = l ++ [c] → y.cps.contains c = false) : Txt.rstripChars (A ++ B) y = A := by
  unfold Txt.rstripChars
  rw [PyProof.Rows.stripBy_eq]
  have h1 : (((A ++ B).cps.toList.drop 0).reverse.takeWhile y.cps.contains) = B.cps.toList.reverse := by
    rw [List.drop_zero, app_cps, List.reverse_append]
    have h2 : ∀ c ∈ B.cps.toList.reverse, y.cps.contains c = true := fun c hc => hB c (List.mem_reverse.mp hc)
    rw [List.takeWhile_append_of_pos h2]
    have h3 : A.cps.toList.reverse.takeWhile y.cps.contains = [] := by
      cases hr : A.cps.toList.reverse with
      | nil => rfl
      | cons c l =>
        have : A.cps.toList = l.reverse ++ [c] := by
          have := congrArg List.reverse hr
          simpa using this
        rw [List.takeWhile_cons, hA _ _ this]
        rfl
    rw [h3, List.append_nil]
  show Builtin.Str.strSub (A ++ B) 0 ((A ++ B).length - (((A ++ B).cps.toList.drop 0).reverse.takeWhile y.cps.contains).length) = A
  rw [h1, List.length_reverse, len_cps, Str.length_append, Nat.add_sub_cancel]
  refine str_ext ?_
  show ((A ++ B).cps.extract 0 A.length).toList = _
  rw [Array.toList_extract, List.extract_eq_drop_take]
  simp [app_cps]
  rw [← len_cps, List.take_left]
theorem mul_cps (z : Str) (n : Nat) : (Txt.mul z (n : Int)).cps.toList = (List.replicate n z.cps.toList).flatten := by
  unfold Txt.mul
  by_cases h0 : n = 0
  · subst h0; rfl
  · rw [if_neg (by omega)]
    by_cases h1 : ((n : Int) == 1 || z.length == 0) = true
    · rw [if_pos h1, Bool.or_eq_true] at *
      rcases h1 with h1 | h1
      · have : n = 1 := by have := eq_of_beq h1; omega
        subst this
        simp
      · have hz : z.cps.toList = [] := List.length_eq_zero_iff.mp (by have := eq_of_beq h1; simpa [Str.length] using this)
        rw [hz]
        induction n with
        | zero => rfl
        | succ n ih => simp
    · rw [if_neg h1, Int.toNat_natCast]
      have go : ∀ (k : Nat) (a : Array Nat), ((List.replicate k z.cps).foldl (· ++ ·) a).toList = a.toList ++ (List.replicate k z.cps.toList).flatten := fun k => by
        induction k with
        | zero => intro a; simp
        | succ k ih => intro a; rw [List.replicate_succ, List.foldl_cons, ih, List.replicate_succ, List.flatten_cons]; simp
      have := go n #[]
      simpa using this
theorem mul_bl (n : Nat) : Txt.mul " " (n : Int) = tx (bl n) := str_ext (by
  rw [mul_cps]
  show (List.replicate n [32]).flatten = List.replicate n 32
  induction n with
  | zero => rfl
  | succ n ih => rw [List.replicate_succ, List.flatten_cons, ih, List.replicate_succ]; rfl)
theorem ljust_tx (z : List Nat) (n : Nat) : Txt.ljust (tx z) (n : Int) = tx (z ++ bl (n - z.length)) := str_ext (by
  have := PyProof.Rows.ljustF_list (tx z) (n : Int) 32
  rw [Int.toNat_natCast, tx_len] at this
  exact this)
theorem rjust_tx (z : List Nat) (n : Nat) : Txt.rjust (tx z) (n : Int) = tx (bl (n - z.length) ++ z) := str_ext (by
  have := PyProof.Rows.rjustF_list (tx z) (n : Int) 32
  rw [Int.toNat_natCast, tx_len] at this
  exact this)
theorem rstrip_bl {S : List Nat} {m : Nat} (h : NB S) : Txt.rstripChars (tx (S ++ bl m)) " " = tx S := by
  rw [← tx_cat]
  have hc : ∀ c : Nat, (" " : Str).cps.contains c = decide (c = 32) := fun c => by
    show (#[32] : Array Nat).contains c = _
    simp [eq_comm]
  refine rstrip_at (fun c h2 => ?_) fun l c e => ?_
  · rw [hc, decide_eq_true]
    exact (List.mem_replicate.mp h2).2
  · rw [hc, decide_eq_false]
    exact h l c e
theorem joinL_jn : ∀ ls : List (List Nat), TL.joinL [32, 32] ls = jn2 ls
  | [] => rfl
  | [_] => rfl
  | p :: q :: r => by rw [TL.joinL, jn2, joinL_jn (q :: r)]
theorem join2 (ls : List (List Nat)) : Txt.join "  " (ls.map tx) = tx (jn2 ls) := str_ext (by
  rw [TL.join_eq]
  have := TL.tl_join "  " (ls.map tx)
  rw [List.map_map] at this
  show TL.tl (Str.join "  " (ls.map tx)) = jn2 ls
  rw [this, ← joinL_jn]
  congr 1
  have : ∀ ls : List (List Nat), ls.map (TL.tl ∘ tx) = ls := fun ls => by
    induction ls with
    | nil => rfl
    | cons a r ih => rw [List.map_cons, ih]; rfl
  exact this ls)
def sdS : Nat → Str
  | 0 => "left"
  | 1 => "right"
  | _ => "middle"
theorem sd_l (sd : Nat) (h : sd < 3) : (sdS sd = "left" ↔ sd = 0) ∧ (sdS sd = "right" ↔ sd = 1) := by
  rcases (show sd = 0 ∨ sd = 1 ∨ sd = 2 by omega) with rfl | rfl | rfl <;> exact ⟨by decide, by decide⟩
abbrev zT (z : List Nat) : PyData := .str (tx z)
abbrev wD (row : List (List Nat)) : PyData := .list (row.map zT)
abbrev wsD (rows : List (List (List Nat))) : PyData := .list (rows.map wD)
abbrev sdD (sides : List Nat) : PyData := .list (sides.map fun s => .str (sdS s))
def zc : List (List Nat) → List Nat → List Nat → List Cell
  | z :: r, m :: ms, s :: ss => (z, m, s) :: zc r ms ss
  | _, _, _ => []
def cD (c : Cell) : PyData := .tuple [zT c.1, .int (c.2.1 : Nat), .str (sdS c.2.2)]
theorem zip3_zc : ∀ (row : List (List Nat)) (ms ss : List Nat), zip3D (row.map zT) (ms.map fun n : Nat => PyData.int (n : Nat)) (ss.map fun s => .str (sdS s)) = (zc row ms ss).map cD
  | [], _, _ => rfl
  | _ :: _, [], _ => rfl
  | _ :: _, _ :: _, [] => rfl
  | z :: r, m :: ms, s :: ss => by
    rw [List.map_cons, List.map_cons, List.map_cons, zip3D, zip3_zc r ms ss]
    rfl
theorem zc_mem : ∀ {row : List (List Nat)} {ms ss : List Nat} {c : Cell}, c ∈ zc row ms ss → ∃ k : Nat, row[k]? = some c.1 ∧ ms[k]? = some c.2.1 ∧ ss[k]? = some c.2.2
  | [], _, _, _, h => by cases h
  | _ :: _, [], _, _, h => by cases h
  | _ :: _, _ :: _, [], _, h => by cases h
  | z :: r, m :: ms, s :: ss, c, h => by
    rw [zc] at h
    rcases List.mem_cons.mp h with rfl | h
    · exact ⟨0, rfl, rfl, rfl⟩
    · obtain ⟨k, h1, h2, h3⟩ := zc_mem h
      exact ⟨k + 1, h1, h2, h3⟩
theorem zc_len : ∀ (row : List (List Nat)) (ms ss : List Nat), (zc row ms ss).length = min (min row.length ms.length) ss.length
  | [], _, _ => by simp [zc]
  | _ :: _, [], _ => by simp [zc]
  | _ :: _, _ :: _, [] => by simp [zc]
  | _ :: r, _ :: ms, _ :: ss => by simp only [zc, List.length_cons, zc_len r ms ss]; omega
theorem zc_get : ∀ {row : List (List Nat)} {ms ss : List Nat} {k : Nat} {z : List Nat} {m s : Nat}, row[k]? = some z → ms[k]? = some m → ss[k]? = some s → (zc row ms ss)[k]? = some (z, m, s)
  | _ :: _, _ :: _, _ :: _, 0, _, _, _, h1, h2, h3 => by cases h1; cases h2; cases h3; rfl
  | _ :: r, _ :: ms, _ :: ss, k + 1, z, m, s, h1, h2, h3 => zc_get (row := r) (ms := ms) (ss := ss) (k := k) h1 h2 h3
def rmx (rows : List (List (List Nat))) (k : Nat) : Nat := rows.foldl (fun r row => if (row.getD k []).length > r then (row.getD k []).length else r) 0
def rms (rows : List (List (List Nat))) (m : Nat) : List Nat := (List.range m).map (rmx rows)
theorem rmx_ge : ∀ (rows : List (List (List Nat))) (k a : Nat), a ≤ rows.foldl (fun r row => if (row.getD k []).length > r then (row.getD k []).length else r) a ∧ ∀ row ∈ rows, (row.getD k []).length ≤ rows.foldl (fun r row => if (row.getD k []).length > r then (row.getD k []).length else r) a
  | [], _, a => ⟨Nat.le_refl _, fun r h => by cases h⟩
  | row :: rows, k, a => by
    rw [List.foldl_cons]
    obtain ⟨h1, h2⟩ := rmx_ge rows k (if (row.getD k []).length > a then (row.getD k []).length else a)
    have h3 : a ≤ (if (row.getD k []).length > a then (row.getD k []).length else a) ∧ (row.getD k []).length ≤ (if (row.getD k []).length > a then (row.getD k []).length else a) := by split <;> omega
    refine ⟨Nat.le_trans h3.1 h1, fun r hr => ?_⟩
    rcases List.mem_cons.mp hr with rfl | hr
    · exact Nat.le_trans h3.2 h1
    · exact h2 r hr
theorem rmx_in : ∀ (rows : List (List (List Nat))) (k a : Nat), rows.foldl (fun r row => if (row.getD k []).length > r then (row.getD k []).length else r) a = a ∨ ∃ row ∈ rows, rows.foldl (fun r row => if (row.getD k []).length > r then (row.getD k []).length else r) a = (row.getD k []).length
  | [], _, _ => .inl rfl
  | row :: rows, k, a => by
    rw [List.foldl_cons]
    rcases rmx_in rows k (if (row.getD k []).length > a then (row.getD k []).length else a) with h | ⟨r, hr, h⟩
    · rw [h]
      split
      · exact .inr ⟨row, List.mem_cons_self .., rfl⟩
      · exact .inl rfl
    · exact .inr ⟨r, List.mem_cons_of_mem _ hr, h⟩
def lns (rows : List (List (List Nat))) (m : Nat) (sides : List Nat) : List (List Nat) := rows.map fun row => lws (zc row (rms rows m) sides)
def Ta (rows : List (List (List Nat))) (m : Nat) (sides : List Nat) : Prop := 1 ≤ m ∧ m ≤ 6 ∧ rows.length ≤ 10 ∧ sides.length = m ∧ (∀ s ∈ sides, s < 3) ∧ ∀ row ∈ rows, row.length = m ∧ ∀ z ∈ row, z.length ≤ 50 ∧ NB z ∧ ∀ c ∈ z, c < 128
theorem r_gTc {n : Nat} {c : Cell} {g : WGs} {md : Md} {st : AS} {k : AS → Prop} : gTp n g (cD c) md st k = (3 = n ∧ g [zT c.1, .int (c.2.1 : Nat), .str (sdS c.2.2)] md st k) := rfl
theorem rmx_le {rows : List (List (List Nat))} {k B : Nat} (h : ∀ row ∈ rows, (row.getD k []).length ≤ B) : rmx rows k ≤ B := by
  unfold rmx
  rcases rmx_in rows k 0 with e | ⟨r, hr, e⟩
  · rw [e]; exact Nat.zero_le _
  · rw [e]; exact h r hr
theorem getD_le {row : List (List Nat)} (h : ∀ z ∈ row, z.length ≤ 50) (k : Nat) : (row.getD k []).length ≤ 50 := by
  rw [List.getD_eq_getElem?_getD]
  cases e : row[k]? with
  | none => exact Nat.zero_le _
  | some z => exact h z (List.mem_of_getElem? e)
theorem ta_cells {rows : List (List (List Nat))} {m : Nat} {sides : List Nat} (hT : Ta rows m sides) {row : List (List Nat)} (hr : row ∈ rows) : (zc row (rms rows m) sides).length = m ∧ ∀ c ∈ zc row (rms rows m) sides, (c.1.length ≤ c.2.1 ∧ NB c.1) ∧ c.2.1 ≤ 50 ∧ c.2.2 < 3 ∧ ∀ x ∈ c.1, x < 128 := by
  obtain ⟨t1, t2, t3, t4, t5, t6⟩ := hT
  have hm : (rms rows m).length = m := by unfold rms; rw [List.length_map, List.length_range]
  refine ⟨by rw [zc_len, hm, (t6 row hr).1, t4]; omega, fun c hc => ?_⟩
  obtain ⟨k, h1, h2, h3⟩ := zc_mem hc
  obtain ⟨g1, g2, g3⟩ := (t6 row hr).2 c.1 (List.mem_of_getElem? h1)
  have hk : k < m := by have := (List.getElem?_eq_some_iff.mp h2).1; omega
  have e : c.2.1 = rmx rows k := by
    unfold rms at h2
    rw [List.getElem?_map, List.getElem?_range hk] at h2
    exact (Option.some.inj h2).symm
  have hle := (rmx_ge rows k 0).2 row hr
  rw [List.getD_eq_getElem?_getD, h1] at hle
  refine ⟨⟨by rw [e]; exact hle, g2⟩, ?_, t5 _ (List.mem_of_getElem? h3), g3⟩
  rw [e]
  exact rmx_le fun r hr2 => getD_le (fun z hz => ((t6 r hr2).2 z hz).1) k
theorem part_sum : ∀ {cs : List Cell}, (∀ c ∈ cs, c.1.length ≤ c.2.1 ∧ c.2.1 ≤ 50) → (((cs.map fun c => tx (part c.1 c.2.1 c.2.2)).map (·.length)).sum ≤ 50 * cs.length)
  | [], _ => by simp
  | c :: r, h => by
    have := part_sum (cs := r) fun x hx => h x (List.mem_cons_of_mem _ hx)
    have hc := h c (List.mem_cons_self ..)
    rw [List.map_cons, List.map_cons, List.sum_cons, tx_len, part_len hc.1, List.length_cons]
    omega
local macro_rules | `(tactic| walk_at "al") => `(tactic| simp only [↓br_t, ↓br_f, ↓br_not, ↓br_dec, ↓r_put0, ↓r_putS, ↓r_next, ↓r_pass, ↓r_brk, ↓r_cnt, ↓r_seq, ↓r_ret, ↓r_retN, ↓r_ifS, ↓r_var, ↓r_var0, ↓r_var1, ↓r_varb, ↓r_varS, ↓r_retV, ↓r_retV0, ↓r_retVS, ↓r_C, ↓r_w2, ↓r_w1, ↓r_tst, ↓r_tstK, ↓r_and, ↓r_or, ↓r_not, ↓r_yes, ↓r_if, ↓r_andV, ↓r_orV, ↓r_notV, ↓r_andK, ↓r_orK, ↓r_notK, ↓r_addI, ↓r_addS, ↓r_addL, ↓r_addLb, ↓r_addLc, ↓r_addLd, ↓r_addT, ↓r_sub, ↓r_mul, ↓r_div, ↓r_divN, ↓r_mod, ↓r_modN, ↓r_pow, ↓r_rep, ↓r_repb, ↓r_neg, ↓r_negK, ↓r_max2, ↓r_min2, ↓r_lt, ↓r_le, ↓r_gt, ↓r_ge, ↓r_eqI, ↓r_eqS, ↓r_eqB, ↓r_neI, ↓r_neS, ↓r_neB, ↓r_in, ↓r_notIn, ↓r_eqLL, ↓r_neLL, ↓r_eqLT, ↓r_neLT, ↓r_eqLN, ↓r_neLN, ↓r_eqLI, ↓r_neLI, ↓r_eqLS, ↓r_neLS, ↓r_eqLB, ↓r_neLB, ↓r_eqTL, ↓r_neTL, ↓r_eqTT, ↓r_neTT, ↓r_eqTN, ↓r_neTN, ↓r_eqTI, ↓r_neTI, ↓r_eqTS, ↓r_neTS, ↓r_eqTB, ↓r_neTB, ↓r_eqNL, ↓r_neNL, ↓r_eqNT, ↓r_neNT, ↓r_eqNN, ↓r_neNN, ↓r_eqNI, ↓r_neNI, ↓r_eqNS, ↓r_neNS, ↓r_eqNB, ↓r_neNB, ↓r_eqIL, ↓r_neIL, ↓r_eqIT, ↓r_neIT, ↓r_eqIN, ↓r_neIN, ↓r_eqIS, ↓r_neIS, ↓r_eqIB, ↓r_neIB, ↓r_eqSL, ↓r_neSL, ↓r_eqST, ↓r_neST, ↓r_eqSN, ↓r_neSN, ↓r_eqSI, ↓r_neSI, ↓r_eqSB, ↓r_neSB, ↓r_eqBL, ↓r_neBL, ↓r_eqBT, ↓r_neBT, ↓r_eqBN, ↓r_neBN, ↓r_eqBI, ↓r_neBI, ↓r_eqBS, ↓r_neBS, ↓r_isN, ↓r_notN, ↓r_isn_none, ↓r_non_none, ↓r_isn_bool, ↓r_non_bool, ↓r_isn_int, ↓r_non_int, ↓r_isn_str, ↓r_non_str, ↓r_isn_list, ↓r_non_list, ↓r_isn_tuple, ↓r_non_tuple, ↓r_isi, ↓r_isi_none_bool, ↓r_isi_none_int, ↓r_isi_none_str, ↓r_isi_none_list, ↓r_isi_none_tuple, ↓r_isi_bool_bool, ↓r_isi_bool_int, ↓r_isi_bool_str, ↓r_isi_bool_list, ↓r_isi_bool_tuple, ↓r_isi_int_bool, ↓r_isi_int_int, ↓r_isi_int_str, ↓r_isi_int_list, ↓r_isi_int_tuple, ↓r_isi_str_bool, ↓r_isi_str_int, ↓r_isi_str_str, ↓r_isi_str_list, ↓r_isi_str_tuple, ↓r_isi_list_bool, ↓r_isi_list_int, ↓r_isi_list_str, ↓r_isi_list_list, ↓r_isi_list_tuple, ↓r_isi_tuple_bool, ↓r_isi_tuple_int, ↓r_isi_tuple_str, ↓r_isi_tuple_list, ↓r_isi_tuple_tuple, ↓r_isBl_none, ↓r_isBl_bool_true, ↓r_isBl_bool_false, ↓r_isBl_int, ↓r_isBl_str, ↓r_isBl_list, ↓r_isBl_tuple, ↓r_notBl_none, ↓r_notBl_bool_true, ↓r_notBl_bool_false, ↓r_notBl_int, ↓r_notBl_str, ↓r_notBl_list, ↓r_notBl_tuple, ↓r_ixL, ↓r_ixT, ↓r_ixS, ↓r_md_o, ↓r_md_b, ↓r_scK_none, ↓r_scK_bool, ↓r_scK_int, ↓r_scK_str, ↓r_scK_list, ↓r_scK_tuple, ↓r_at0, ↓r_atl0, ↓r_atb0, ↓r_atT0, ↓r_atTb0, ↓r_atT1, ↓r_atTb1, ↓r_atT2, ↓r_atTb2, ↓r_atT3, ↓r_atT4, ↓r_sl, ↓r_slK, ↓r_on, ↓r_os, ↓r_osK, ↓r_aSlL, ↓r_aSlLb, ↓r_aSlT, ↓r_aSlS, ↓r_revL, ↓r_revK, ↓r_revKb, ↓r_ln, ↓r_lc, ↓r_lcK, ↓r_lst, ↓r_tup, ↓r_eOk0, ↓r_okK0, ↓r_set, ↓r_setO, ↓r_setN, ↓r_setb_none, ↓r_setb_bool, ↓r_setb_int, ↓r_setb_str, ↓r_fzK, ↓r_fz0, ↓r_fz00, ↓r_fzd, ↓r_fzS, ↓r_drop, ↓r_aug, ↓r_aug0, ↓r_augS, ↓r_iaddI, ↓r_iaddS, ↓r_app, ↓r_app0, ↓r_appS, ↓r_sat, ↓r_sat0, ↓r_satI, ↓r_satS, ↓r_gat, ↓r_gat0, ↓r_gatS, ↓r_augI, ↓r_an, ↓r_av, ↓r_avO, ↓r_avb_none, ↓r_avb_bool, ↓r_avb_int, ↓r_avb_str, ↓r_avb_list, ↓r_avb_tuple, ↓r_as, ↓r_as0, ↓r_asS, ↓r_ab, ↓r_ab0, ↓r_abS, ↓r_ub0, ↓r_ubV, ↓r_ubB, ↓r_ubX, ↓r_ubY, ↓r_call, ↓r_cl0, ↓r_clV, ↓r_clB, ↓r_clX, ↓r_clY, ↓r_draw, ↓r_lenL, ↓r_lenT, ↓r_lenS, ↓r_int, ↓r_intB, ↓r_listL, ↓r_listLb, ↓r_listT, ↓r_tupL, ↓r_tupLb, ↓r_tupT, ↓r_sum, ↓r_max, ↓r_min, ↓r_any, ↓r_all, ↓r_abs, ↓r_str, ↓r_reprI, ↓r_reprS, ↓r_lenScr, ↓r_lenScr0, ↓r_atScr, ↓r_atScr0, ↓r_atSI, ↓r_chn, ↓r_chn1, ↓r_chn2, ↓r_chn3, ↓br_cLt, ↓br_cLe, ↓br_cGt, ↓br_cGe, ↓r_R1, ↓r_rgK, ↓r_R2, ↓r_rgK2, ↓r_lstR, ↓r_tupR, ↓r_iter, ↓r_itL, ↓r_itLb, ↓r_itT, ↓r_itTb, ↓r_itS, ↓r_rng1, ↓r_rn1K, ↓r_rng2, ↓r_rn2K, ↓r_rngD, ↓r_rnDK, ↓r_enum, ↓r_enK, ↓r_enKb, ↓r_zip, ↓r_zpL, ↓r_zpLb, ↓r_zpLc, ↓r_zpT, ↓r_rev, ↓r_rvL, ↓r_rvLb, ↓r_rvT, ↓r_revR, ↓r_gNm, ↓r_nmO, ↓r_nmb_none, ↓r_nmb_bool, ↓r_nmb_int, ↓r_nmb_str, ↓r_nmb_list, ↓r_nmb_tuple, ↓r_gTp, ↓r_gNl, ↓r_gCsO, ↓r_gCsB, ↓r_asg, ↓r_for, ↓r_forK, ↓r_whl, ↓r_wip0, ↓r_wipS, ↓r_comp, ↓r_compN, ↓r_cmpK, ↓r_itmO, ↓r_itmB, ↓r_eAccS, ↓r_eAccN, ↓r_sortL, ↓r_sortLb, ↓br_iff, ↓r_wM1, ↓r_m1K, ↓r_starts, ↓r_ends, ↓r_find, ↓r_count, ↓r_rstrip, ↓r_lstrip, ↓r_strip, ↓r_ljust, ↓r_rjust, ↓r_join, ↓r_sRep, ↓r_idx, ↓r_idK, ↓r_insert, ↓r_ins0, ↓r_insS, ↓r_insJ, ↓r_pop, ↓r_setPop, ↓r_pop0, ↓r_popS, ↓r_popJ, ↓r_eOkS, ↓r_extend, ↓r_ext0, ↓r_extS, ↓r_exJ, ↓r_exJb, ↓r_aap, ↓r_aa0, ↓r_aaS, ↓r_aaJ, ↓r_s2, ↓r_s20, ↓r_s2S, ↓r_s2J, ↓r_s2J2, ↓r_wM2, ↓r_m2K, ↓r_starts3, ↓r_sumAL, ↓r_sumAT, ↓r_bestL, ↓r_bestT, ↓r_repT, ↓r_intS, ↓r_ali, ↓r_ali0, ↓r_aliS, ↓r_aliJ, ↓r_DD, ↓r_atO, ↓r_ato0, ↓r_atoS, ↓r_atoJ, ↓r_enumA, ↓r_enA2, ↓r_enA2b, ↓r_enA2t, ↓r_enA2tb, ↓r_sixK, ↓r_tidx, ↓r_tiK, ↓r_comp2, ↓r_cmp2K, ↓r_isOo, ↓r_never, ↓r_dnew, ↓r_datI, ↓r_datS, ↓r_dinI, ↓r_dinS, ↓r_dninI, ↓r_dninS, ↓r_dput, ↓r_dput0, ↓r_dputS, ↓r_dputI, ↓r_dputT, ↓r_wPn, ↓r_wPc, ↓r_ppI, ↓r_ppS, ↓r_dsp, ↓r_get2, ↓r_get2K, ↓r_get2I, ↓r_get2S, ↓r_lenD, ↓r_lenDK, ↓r_dcomp, ↓r_dcK, ↓r_rngC, ↓r_rcK, ↓r_tupR3, ↓r_t3K, ↓r_pad3, ↓r_zipM, ↓r_zmL, ↓r_zmLb, ↓r_zmLc, ↓r_zip3, ↓r_z3L, ↓r_zip3, ↓r_z3L, ↓r_gTc, true_and, and_true, decide_true, decide_false, true_or, or_true, or_false, false_or, eq_self, inB, Int.reduceLT, Int.reduceLE, Int.reduceToNat, Int.reduceNeg, Nat.reducePow, Int.reducePow, Int.reduceAdd, Int.reduceSub, Int.reduceMul, Int.reduceEq, Int.reduceMod, Int.reduceDiv, Nat.reduceMul, Nat.reduceSub, Nat.reduceEqDiff, Int.reduceGT, Int.reduceGE, false_and, and_false, imp_false, true_implies, false_implies, implies_true, not_true_eq_false, Bool.not_true, Bool.not_false, not_false_eq_true, List.length_cons, List.length_nil, Nat.zero_add, Nat.reduceAdd, Nat.reduceLeDiff, Nat.reduceLT, PyData.bool.injEq, Bool.true_eq_false, Bool.false_eq_true, reduceCtorEq, Option.some.injEq, List.length_map, List.length_range, List.length_reverse, List.length_append, Int.toNat_natCast, Int.zero_add, Int.mul_one, PyData.int.injEq, z_le0, z_lt0, zc_0, z_le1, z_lt1, zc_1, z_le2, z_lt2, zc_2, z_le3, z_lt3, zc_3, z_le4, z_lt4, zc_4, z_le5, z_lt5, zc_5, z_le6, z_lt6, zc_6, z_le7, z_lt7, zc_7, z_le8, z_lt8, zc_8, z_le9, z_lt9, zc_9, z_le10, z_lt10, zc_10, z_le11, z_lt11, zc_11, z_le12, z_lt12, zc_12, z_le13, z_lt13, zc_13, z_le14, z_lt14, zc_14, z_le15, z_lt15, zc_15, z_le16, z_lt16, zc_16])
theorem pad_all : ((List.range 101).all fun s : Nat => PadOk ((s : Nat) : Int)) = true := by decide +kernel
theorem pad_ok {n : Nat} (h : n ≤ 100) : PadOk ((n : Nat) : Int) = true := List.all_eq_true.mp pad_all n (List.mem_range.mpr (by omega))
def S_put_text : ASp := fun as Q => ∃ (z : List Nat) (room sd : Nat), as = [.val (.str ((tx z))) (.o 0), .val (.int ((room : Nat))) (.o 0), .val (.str ((sdS sd))) (.o 0)] ∧ (sd < 3) ∧ (z.length ≤ room) ∧ (room ≤ 100) ∧ (Q (.str (tx (part z room sd))) (.o 0))
theorem r_put_text {as : List SV} {Q : QE} {t : Tg Q} : CallK S_put_text as Q t = (∃ (z : List Nat) (room sd : Nat), as = [.val (.str ((tx z))) (.o 0), .val (.int ((room : Nat))) (.o 0), .val (.str ((sdS sd))) (.o 0)] ∧ (sd < 3) ∧ (z.length ≤ room) ∧ (room ≤ 100) ∧ (Q (.str (tx (part z room sd))) (.o 0))) := rfl
theorem h_put_text : ∀ as Q, as.length = 3 → S_put_text as Q → w_put_text  { nx := fun _ => Q .none (.o 0), rt := Q } (pad N_put_text.length as) := by
  rintro as Q hln ⟨z, room, sd, rfl, hs, hz, hr, hq⟩
  clear hln
  show w_put_text  _ [.val (.str ((tx z))) (.o 0), .val (.int ((room : Nat))) (.o 0), .val (.str ((sdS sd))) (.o 0), .dead]
  unfold w_put_text
  walk_at "al"
  obtain ⟨s1, s2⟩ := sd_l sd hs
  rw [tx_len]
  have h1 : ((room : Int) - (z.length : Nat)) / 2 = (((room - z.length) / 2 : Nat) : Int) := by omega
  have h2 : (room : Int) - (z.length : Nat) - (((room - z.length) / 2 : Nat) : Int) = ((room - z.length - (room - z.length) / 2 : Nat) : Int) := by omega
  rw [h1, h2, mul_bl, mul_bl, tx_cat, tx_cat, tx_len, tx_len, tx_len, ljust_tx, rjust_tx, bl_len, bl_len, List.length_append, bl_len]
  unfold part lead at hq
  refine ⟨fun c => ⟨pad_ok hr, ?_⟩, fun c => ⟨fun d => ⟨pad_ok hr, ?_⟩, fun d => ⟨by rw [szv]; omega, mul_ok (by decide) (by omega), by rw [szv]; omega, mul_ok (by decide) (by omega), by rw [szv]; omega, ?_⟩⟩⟩
  · rw [if_pos (s1.mp c)] at hq
    exact hq
  · rw [if_neg (fun e => c (s1.mpr e)), if_pos (s2.mp d), Nat.sub_self, show bl 0 = [] from rfl, List.append_nil] at hq
    exact hq
  · rw [if_neg (fun e => c (s1.mpr e)), if_neg (fun e => d (s2.mpr e))] at hq
    exact hq
def S_text_table : ASp := fun as Q => ∃ (rows : List (List (List Nat))) (m : Nat) (sides : List Nat), as = [.val ((wsD rows)) (.o 0), .val ((sdD sides)) (.o 0)] ∧ (Ta rows m sides) ∧ (Q (.list ((lns rows m sides).map zT)) (.o 1))
theorem r_text_table {as : List SV} {Q : QE} {t : Tg Q} : CallK S_text_table as Q t = (∃ (rows : List (List (List Nat))) (m : Nat) (sides : List Nat), as = [.val ((wsD rows)) (.o 0), .val ((sdD sides)) (.o 0)] ∧ (Ta rows m sides) ∧ (Q (.list ((lns rows m sides).map zT)) (.o 1))) := rfl
theorem h_text_table : ∀ as Q, as.length = 2 → S_text_table as Q → w_text_table S_put_text { nx := fun _ => Q .none (.o 0), rt := Q } (pad N_text_table.length as) := by
  rintro as Q hln ⟨rows, m, sides, rfl, hT, hq⟩
  clear hln
  show w_text_table _ _ [.val ((wsD rows)) (.o 0), .val ((sdD sides)) (.o 0), .dead, .dead, .dead, .dead, .dead, .dead, .dead, .dead]
  unfold w_text_table
  walk_at "al"
  have hT' := hT
  obtain ⟨t1, t2, t3, t4, t5, t6⟩ := hT
  refine ⟨fun c => ?_, fun c => ?_⟩
  · have hn : rows = [] := List.length_eq_zero_iff.mp (by omega)
    rw [hn] at hq
    exact hq
  obtain ⟨row0, rest, hrows⟩ : ∃ a b, rows = a :: b := List.exists_cons_of_ne_nil (fun e => c (by rw [e]; rfl))
  have h0 : row0.length = m := (t6 row0 (by rw [hrows]; exact List.mem_cons_self ..)).1
  refine at_0 (d := wD row0) (by rw [show (0 : Int) = ((0 : Nat) : Int) from rfl, atI_k, hrows]; rfl) ?_
  (first | walk_at "al" | skip)
  rw [h0, rngs_nat]
  refine ⟨by omega, cmp_map (f0 := fun n : Nat => PyData.int (n : Nat)) (fun k => .int (rmx rows k : Nat)) (by rw [szv, List.length_range]; omega) (fun k hk => ?_) ?_⟩
  · have hk := List.mem_range.mp hk
    (first | walk_at "al" | skip)
    refine cmp_map (f0 := wD) (fun row => .int ((row.getD k []).length : Nat)) (by rw [szv]; omega) (fun row hr => ?_) ?_
    · have hrl := (t6 row hr).1
      have hg : row[k]? = some (row.getD k []) := by rw [List.getD_eq_getElem?_getD, List.getElem?_eq_getElem (by omega)]; rfl
      (first | walk_at "al" | skip)
      refine at_0 (d := zT (row.getD k [])) (by rw [atI_k, List.getElem?_map, hg]; rfl) ?_
      (first | walk_at "al" | skip)
      rw [tx_len]
      have := getD_le (fun z hz => ((t6 row hr).2 z hz).1) k
      exact ⟨by rw [szv]; omega, rfl⟩
    refine ⟨rows.map fun row => ((row.getD k []).length : Int), by rw [List.map_map]; rfl, by rw [hrows]; simp, ?_⟩
    have hmx : maxI (rows.map fun row => ((row.getD k []).length : Int)) = (rmx rows k : Nat) := by
      refine maxI_eq ?_ fun y hy => ?_
      · rcases rmx_in rows k 0 with e | ⟨r, hr, e⟩
        · have := (rmx_ge rows k 0).2 row0 (by rw [hrows]; exact List.mem_cons_self ..)
          refine List.mem_map.mpr ⟨row0, by rw [hrows]; exact List.mem_cons_self .., ?_⟩
          unfold rmx
          omega
        · exact List.mem_map.mpr ⟨r, hr, by unfold rmx; rw [e]⟩
      · obtain ⟨r, hr, rfl⟩ := List.mem_map.mp hy
        have := (rmx_ge rows k 0).2 r hr
        unfold rmx
        omega
    rw [hmx]
  have hrm : (List.range m).map (fun k => PyData.int (rmx rows k : Nat)) = (rms rows m).map fun n : Nat => PyData.int (n : Nat) := by unfold rms; rw [List.map_map]; rfl
  rw [hrm]
  (first | walk_at "al" | skip)
  refine for_map (f := wD) (fun i st => ∃ (x_row x_parts x_col x_text x_room x_side : SV), st = [.val ((wsD rows)) (.o 0), .val ((sdD sides)) (.o 0), .val (.list ((rms rows m).map fun n : Nat => .int (n : Nat))) (.o 0), .val (.list (((lns rows m sides).take i).map zT)) (.o 1), x_row, x_parts, x_col, x_text, x_room, x_side]) ⟨_, _, _, _, _, _, rfl⟩ ?_ ?_
  · rintro i row st hi ⟨x_row, x_parts, x_col, x_text, x_room, x_side, rfl⟩
    have hr := List.mem_of_getElem? hi
    obtain ⟨cl, cc⟩ := ta_cells hT' hr
    (first | walk_at "al" | skip)
    rw [zip3_zc]
    refine cmp_map (f0 := cD) (fun c => zT (part c.1 c.2.1 c.2.2)) (by rw [szv]; omega) (fun c hc => ?_) ?_
    · obtain ⟨⟨c1, _⟩, c2, c3, _⟩ := cc c hc
      (first | walk_at "al" | skip)
      simp only [r_put_text]
      exact ⟨c.1, c.2.1, c.2.2, rfl, c3, c1, by omega, rfl, rfl⟩
    (first | walk_at "al" | skip)
    have hps := part_sum (cs := zc row (rms rows m) sides) fun c hc => ⟨(cc c hc).1.1, (cc c hc).2.1⟩
    refine join_s ((zc row (rms rows m) sides).map fun c => tx (part c.1 c.2.1 c.2.2)) (by rw [List.map_map]; rfl) (by rw [List.length_map, show ("  " : Str).length = 2 by decide]; omega) ?_
    have hj : Txt.join "  " ((zc row (rms rows m) sides).map fun c => tx (part c.1 c.2.1 c.2.2)) = tx (jn2 ((zc row (rms rows m) sides).map fun c => part c.1 c.2.1 c.2.2)) := by rw [← join2, List.map_map]; rfl
    have hne : zc row (rms rows m) sides ≠ [] := fun e => by rw [e] at cl; simp at cl; omega
    obtain ⟨mm, l1, l2⟩ := line_ok (zc row (rms rows m) sides) hne fun c hc => (cc c hc).1
    have hlen : (jn2 ((zc row (rms rows m) sides).map fun c => part c.1 c.2.1 c.2.2)).length ≤ 1000 := by
      have h1 := jn_qs (zc row (rms rows m) sides) hne
      have h2 := (cols (zc row (rms rows m) sides) [] 0 0 [] (fun c hc => (cc c hc).1) rfl rfl (fun a c e => by cases a <;> cases e))
      obtain ⟨_, _, _, h3⟩ := h2
      have h4 := (lws_len (zc row (rms rows m) sides) [] 0 (Nat.le_refl _) fun c hc => (cc c hc).1.1).2
      have h5 : ∀ {cs : List Cell}, (∀ c ∈ cs, c.2.1 ≤ 50) → (cs.map fun c => c.2.1 + 2).sum ≤ 52 * cs.length := by
        intro cs
        induction cs with
        | nil => intro _; simp
        | cons a r ih =>
          intro h
          have := ih fun x hx => h x (List.mem_cons_of_mem _ hx)
          have := h a (List.mem_cons_self ..)
          rw [List.map_cons, List.sum_cons, List.length_cons]
          omega
      have h6 := h5 fun c hc => (cc c hc).2.1
      rw [List.nil_append, ← h1, List.length_append, h4] at h3
      omega
    rw [hj]
    (first | walk_at "al" | skip)
    refine ⟨by rw [tx_len, szv]; omega, ?_⟩
    rw [l1, rstrip_bl l2]
    (first | walk_at "al" | skip)
    have hln : (lns rows m sides)[i]? = some (lws (zc row (rms rows m) sides)) := by unfold lns; rw [List.getElem?_map, hi]; rfl
    rw [take_succ' hln, List.map_append]
    exact ⟨by rw [szv, List.length_take]; unfold lns; rw [List.length_map]; omega, _, _, _, _, _, _, rfl⟩
  · rintro st ⟨x_row, x_parts, x_col, x_text, x_room, x_side, rfl⟩
    (first | walk_at "al" | skip)
    rw [List.take_of_length_le (by unfold lns; rw [List.length_map]; exact Nat.le_refl _)]
    exact hq
end LW

namespace LW
open PySem PySem.Spec PyProof.Rows L2 AL
local macro_rules | `(tactic| walk_at "al") => `(tactic| simp only [↓br_t, ↓br_f, ↓br_not, ↓br_dec, ↓r_put0, ↓r_putS, ↓r_next, ↓r_pass, ↓r_brk, ↓r_cnt, ↓r_seq, ↓r_ret, ↓r_retN, ↓r_ifS, ↓r_var, ↓r_var0, ↓r_var1, ↓r_varb, ↓r_varS, ↓r_retV, ↓r_retV0, ↓r_retVS, ↓r_C, ↓r_w2, ↓r_w1, ↓r_tst, ↓r_tstK, ↓r_and, ↓r_or, ↓r_not, ↓r_yes, ↓r_if, ↓r_andV, ↓r_orV, ↓r_notV, ↓r_andK, ↓r_orK, ↓r_notK, ↓r_addI, ↓r_addS, ↓r_addL, ↓r_addLb, ↓r_addLc, ↓r_addLd, ↓r_addT, ↓r_sub, ↓r_mul, ↓r_div, ↓r_divN, ↓r_mod, ↓r_modN, ↓r_pow, ↓r_rep, ↓r_repb, ↓r_neg, ↓r_negK, ↓r_max2, ↓r_min2, ↓r_lt, ↓r_le, ↓r_gt, ↓r_ge, ↓r_eqI, ↓r_eqS, ↓r_eqB, ↓r_neI, ↓r_neS, ↓r_neB, ↓r_in, ↓r_notIn, ↓r_eqLL, ↓r_neLL, ↓r_eqLT, ↓r_neLT, ↓r_eqLN, ↓r_neLN, ↓r_eqLI, ↓r_neLI, ↓r_eqLS, ↓r_neLS, ↓r_eqLB, ↓r_neLB, ↓r_eqTL, ↓r_neTL, ↓r_eqTT, ↓r_neTT, ↓r_eqTN, ↓r_neTN, ↓r_eqTI, ↓r_neTI, ↓r_eqTS, ↓r_neTS, ↓r_eqTB, ↓r_neTB, ↓r_eqNL, ↓r_neNL, ↓r_eqNT, ↓r_neNT, ↓r_eqNN, ↓r_neNN, ↓r_eqNI, ↓r_neNI, ↓r_eqNS, ↓r_neNS, ↓r_eqNB, ↓r_neNB, ↓r_eqIL, ↓r_neIL, ↓r_eqIT, ↓r_neIT, ↓r_eqIN, ↓r_neIN, ↓r_eqIS, ↓r_neIS, ↓r_eqIB, ↓r_neIB, ↓r_eqSL, ↓r_neSL, ↓r_eqST, ↓r_neST, ↓r_eqSN, ↓r_neSN, ↓r_eqSI, ↓r_neSI, ↓r_eqSB, ↓r_neSB, ↓r_eqBL, ↓r_neBL, ↓r_eqBT, ↓r_neBT, ↓r_eqBN, ↓r_neBN, ↓r_eqBI, ↓r_neBI, ↓r_eqBS, ↓r_neBS, ↓r_isN, ↓r_notN, ↓r_isn_none, ↓r_non_none, ↓r_isn_bool, ↓r_non_bool, ↓r_isn_int, ↓r_non_int, ↓r_isn_str, ↓r_non_str, ↓r_isn_list, ↓r_non_list, ↓r_isn_tuple, ↓r_non_tuple, ↓r_isi, ↓r_isi_none_bool, ↓r_isi_none_int, ↓r_isi_none_str, ↓r_isi_none_list, ↓r_isi_none_tuple, ↓r_isi_bool_bool, ↓r_isi_bool_int, ↓r_isi_bool_str, ↓r_isi_bool_list, ↓r_isi_bool_tuple, ↓r_isi_int_bool, ↓r_isi_int_int, ↓r_isi_int_str, ↓r_isi_int_list, ↓r_isi_int_tuple, ↓r_isi_str_bool, ↓r_isi_str_int, ↓r_isi_str_str, ↓r_isi_str_list, ↓r_isi_str_tuple, ↓r_isi_list_bool, ↓r_isi_list_int, ↓r_isi_list_str, ↓r_isi_list_list, ↓r_isi_list_tuple, ↓r_isi_tuple_bool, ↓r_isi_tuple_int, ↓r_isi_tuple_str, ↓r_isi_tuple_list, ↓r_isi_tuple_tuple, ↓r_isBl_none, ↓r_isBl_bool_true, ↓r_isBl_bool_false, ↓r_isBl_int, ↓r_isBl_str, ↓r_isBl_list, ↓r_isBl_tuple, ↓r_notBl_none, ↓r_notBl_bool_true, ↓r_notBl_bool_false, ↓r_notBl_int, ↓r_notBl_str, ↓r_notBl_list, ↓r_notBl_tuple, ↓r_ixL, ↓r_ixT, ↓r_ixS, ↓r_md_o, ↓r_md_b, ↓r_scK_none, ↓r_scK_bool, ↓r_scK_int, ↓r_scK_str, ↓r_scK_list, ↓r_scK_tuple, ↓r_at0, ↓r_atl0, ↓r_atb0, ↓r_atT0, ↓r_atTb0, ↓r_atT1, ↓r_atTb1, ↓r_atT2, ↓r_atTb2, ↓r_atT3, ↓r_atT4, ↓r_sl, ↓r_slK, ↓r_on, ↓r_os, ↓r_osK, ↓r_aSlL, ↓r_aSlLb, ↓r_aSlT, ↓r_aSlS, ↓r_revL, ↓r_revK, ↓r_revKb, ↓r_ln, ↓r_lc, ↓r_lcK, ↓r_lst, ↓r_tup, ↓r_eOk0, ↓r_okK0, ↓r_set, ↓r_setO, ↓r_setN, ↓r_setb_none, ↓r_setb_bool, ↓r_setb_int, ↓r_setb_str, ↓r_fzK, ↓r_fz0, ↓r_fz00, ↓r_fzd, ↓r_fzS, ↓r_drop, ↓r_aug, ↓r_aug0, ↓r_augS, ↓r_iaddI, ↓r_iaddS, ↓r_app, ↓r_app0, ↓r_appS, ↓r_sat, ↓r_sat0, ↓r_satI, ↓r_satS, ↓r_gat, ↓r_gat0, ↓r_gatS, ↓r_augI, ↓r_an, ↓r_av, ↓r_avO, ↓r_avb_none, ↓r_avb_bool, ↓r_avb_int, ↓r_avb_str, ↓r_avb_list, ↓r_avb_tuple, ↓r_as, ↓r_as0, ↓r_asS, ↓r_ab, ↓r_ab0, ↓r_abS, ↓r_ub0, ↓r_ubV, ↓r_ubB, ↓r_ubX, ↓r_ubY, ↓r_call, ↓r_cl0, ↓r_clV, ↓r_clB, ↓r_clX, ↓r_clY, ↓r_draw, ↓r_lenL, ↓r_lenT, ↓r_lenS, ↓r_int, ↓r_intB, ↓r_listL, ↓r_listLb, ↓r_listT, ↓r_tupL, ↓r_tupLb, ↓r_tupT, ↓r_sum, ↓r_max, ↓r_min, ↓r_any, ↓r_all, ↓r_abs, ↓r_str, ↓r_reprI, ↓r_reprS, ↓r_lenScr, ↓r_lenScr0, ↓r_atScr, ↓r_atScr0, ↓r_atSI, ↓r_chn, ↓r_chn1, ↓r_chn2, ↓r_chn3, ↓br_cLt, ↓br_cLe, ↓br_cGt, ↓br_cGe, ↓r_R1, ↓r_rgK, ↓r_R2, ↓r_rgK2, ↓r_lstR, ↓r_tupR, ↓r_iter, ↓r_itL, ↓r_itLb, ↓r_itT, ↓r_itTb, ↓r_itS, ↓r_rng1, ↓r_rn1K, ↓r_rng2, ↓r_rn2K, ↓r_rngD, ↓r_rnDK, ↓r_enum, ↓r_enK, ↓r_enKb, ↓r_zip, ↓r_zpL, ↓r_zpLb, ↓r_zpLc, ↓r_zpT, ↓r_rev, ↓r_rvL, ↓r_rvLb, ↓r_rvT, ↓r_revR, ↓r_gNm, ↓r_nmO, ↓r_nmb_none, ↓r_nmb_bool, ↓r_nmb_int, ↓r_nmb_str, ↓r_nmb_list, ↓r_nmb_tuple, ↓r_gTp, ↓r_gNl, ↓r_gCsO, ↓r_gCsB, ↓r_asg, ↓r_for, ↓r_forK, ↓r_whl, ↓r_wip0, ↓r_wipS, ↓r_comp, ↓r_compN, ↓r_cmpK, ↓r_itmO, ↓r_itmB, ↓r_eAccS, ↓r_eAccN, ↓r_sortL, ↓r_sortLb, ↓br_iff, ↓r_wM1, ↓r_m1K, ↓r_starts, ↓r_ends, ↓r_find, ↓r_count, ↓r_rstrip, ↓r_lstrip, ↓r_strip, ↓r_ljust, ↓r_rjust, ↓r_join, ↓r_sRep, ↓r_idx, ↓r_idK, ↓r_insert, ↓r_ins0, ↓r_insS, ↓r_insJ, ↓r_pop, ↓r_setPop, ↓r_pop0, ↓r_popS, ↓r_popJ, ↓r_eOkS, ↓r_extend, ↓r_ext0, ↓r_extS, ↓r_exJ, ↓r_exJb, ↓r_aap, ↓r_aa0, ↓r_aaS, ↓r_aaJ, ↓r_s2, ↓r_s20, ↓r_s2S, ↓r_s2J, ↓r_s2J2, ↓r_wM2, ↓r_m2K, ↓r_starts3, ↓r_sumAL, ↓r_sumAT, ↓r_bestL, ↓r_bestT, ↓r_repT, ↓r_intS, ↓r_ali, ↓r_ali0, ↓r_aliS, ↓r_aliJ, ↓r_DD, ↓r_atO, ↓r_ato0, ↓r_atoS, ↓r_atoJ, ↓r_enumA, ↓r_enA2, ↓r_enA2b, ↓r_enA2t, ↓r_enA2tb, ↓r_sixK, ↓r_tidx, ↓r_tiK, ↓r_comp2, ↓r_cmp2K, ↓r_isOo, ↓r_never, ↓r_dnew, ↓r_datI, ↓r_datS, ↓r_dinI, ↓r_dinS, ↓r_dninI, ↓r_dninS, ↓r_dput, ↓r_dput0, ↓r_dputS, ↓r_dputI, ↓r_dputT, ↓r_wPn, ↓r_wPc, ↓r_ppI, ↓r_ppS, ↓r_dsp, ↓r_get2, ↓r_get2K, ↓r_get2I, ↓r_get2S, ↓r_lenD, ↓r_lenDK, ↓r_dcomp, ↓r_dcK, ↓r_rngC, ↓r_rcK, ↓r_tupR3, ↓r_t3K, ↓r_pad3, ↓r_zipM, ↓r_zmL, ↓r_zmLb, ↓r_zmLc, ↓r_zip3, ↓r_z3L, ↓r_zip3, ↓r_z3L, ↓r_gTc, true_and, and_true, decide_true, decide_false, true_or, or_true, or_false, false_or, eq_self, inB, Int.reduceLT, Int.reduceLE, Int.reduceToNat, Int.reduceNeg, Nat.reducePow, Int.reducePow, Int.reduceAdd, Int.reduceSub, Int.reduceMul, Int.reduceEq, Int.reduceMod, Int.reduceDiv, Nat.reduceMul, Nat.reduceSub, Nat.reduceEqDiff, Int.reduceGT, Int.reduceGE, false_and, and_false, imp_false, true_implies, false_implies, implies_true, not_true_eq_false, Bool.not_true, Bool.not_false, not_false_eq_true, List.length_cons, List.length_nil, Nat.zero_add, Nat.reduceAdd, Nat.reduceLeDiff, Nat.reduceLT, PyData.bool.injEq, Bool.true_eq_false, Bool.false_eq_true, reduceCtorEq, Option.some.injEq, List.length_map, List.length_range, List.length_reverse, List.length_append, Int.toNat_natCast, Int.zero_add, Int.mul_one, PyData.int.injEq, z_le0, z_lt0, zc_0, z_le1, z_lt1, zc_1, z_le2, z_lt2, zc_2, z_le3, z_lt3, zc_3, z_le4, z_lt4, zc_4, z_le5, z_lt5, zc_5, z_le6, z_lt6, zc_6, z_le7, z_lt7, zc_7, z_le8, z_lt8, zc_8, z_le9, z_lt9, zc_9, z_le10, z_lt10, zc_10, z_le11, z_lt11, zc_11, z_le12, z_lt12, zc_12, z_le13, z_lt13, zc_13, z_le14, z_lt14, zc_14, z_le15, z_lt15, zc_15, z_le16, z_lt16, zc_16])
def S__law_start : ASp := fun as Q => ∃ (z : List Nat) (room sd : Nat), as = [.val (.str ((tx z))) (.o 0), .val (.int ((room : Nat))) (.o 0), .val (.str ((sdS sd))) (.o 0)] ∧ (sd < 3) ∧ (z.length ≤ room) ∧ (room ≤ 100) ∧ (Q (.int (lead z.length room sd : Nat)) (.o 0))
theorem r__law_start {as : List SV} {Q : QE} {t : Tg Q} : CallK S__law_start as Q t = (∃ (z : List Nat) (room sd : Nat), as = [.val (.str ((tx z))) (.o 0), .val (.int ((room : Nat))) (.o 0), .val (.str ((sdS sd))) (.o 0)] ∧ (sd < 3) ∧ (z.length ≤ room) ∧ (room ≤ 100) ∧ (Q (.int (lead z.length room sd : Nat)) (.o 0))) := rfl
theorem h__law_start : ∀ as Q, as.length = 3 → S__law_start as Q → w__law_start  { nx := fun _ => Q .none (.o 0), rt := Q } (pad N__law_start.length as) := by
  rintro as Q hln ⟨z, room, sd, rfl, hs, hz, hl, hq⟩
  clear hln
  show w__law_start  _ [.val (.str ((tx z))) (.o 0), .val (.int ((room : Nat))) (.o 0), .val (.str ((sdS sd))) (.o 0)]
  unfold w__law_start
  walk_at "al"
  obtain ⟨s1, s2⟩ := sd_l sd hs
  rw [tx_len]
  unfold lead at hq
  refine ⟨fun c => ?_, fun c => ⟨fun d => ⟨by rw [szv]; omega, ?_⟩, fun d => ⟨by rw [szv]; omega, ?_⟩⟩⟩
  · rw [if_pos (s1.mp c)] at hq
    exact hq
  · rw [if_neg (fun e => c (s1.mpr e)), if_pos (s2.mp d)] at hq
    rw [show ((room : Int) - (z.length : Nat)) = ((room - z.length : Nat) : Int) by omega]
    exact hq
  · rw [if_neg (fun e => c (s1.mpr e)), if_neg (fun e => d (s2.mpr e))] at hq
    rw [show ((room : Int) - (z.length : Nat)) / 2 = (((room - z.length) / 2 : Nat) : Int) by omega]
    exact hq
def sg (S : List Nat) : List PyData := S.map fun c => .str ⟨#[c]⟩
theorem sg_bl (S : List Nat) (t : Nat) : sg (S ++ bl t) ++ [PyData.str " "] = sg (S ++ bl (t + 1)) := by
  unfold sg bl
  rw [List.replicate_succ', ← List.append_assoc, List.map_append (l₁ := S ++ List.replicate t 32)]
  rfl
theorem sg_join (S : List Nat) : Txt.join "" (S.map fun c => (⟨#[c]⟩ : Str)) = tx S := str_ext (by
  rw [show ("" : Str) = Str.ofString "" from rfl, AL.join_nil, List.map_map]
  show (S.map fun c => [c]).flatten = S
  induction S with
  | nil => rfl
  | cons c S ih => rw [List.map_cons, List.flatten_cons, ih]; rfl)
theorem sg_sum (S : List Nat) : ((S.map fun c => (⟨#[c]⟩ : Str)).map (·.length)).sum = S.length := by
  induction S with
  | nil => rfl
  | cons c S ih => rw [List.map_cons, List.map_cons, List.sum_cons, ih, List.length_cons]; show 1 + S.length = S.length + 1; omega
def cur (S z : List Nat) (p j : Nat) : List Nat := if j = 0 then S else S ++ bl p ++ z.take j
theorem cur_len (S z : List Nat) (p j : Nat) (h : j ≤ z.length) : (cur S z p j).length = if j = 0 then S.length else S.length + p + j := by
  unfold cur
  split
  · rfl
  · rw [List.length_append, List.length_append, bl_len, List.length_take, Nat.min_eq_left h]
theorem cur_bl (S z : List Nat) (p j : Nat) : cur S z p j ++ bl (if j = 0 then p else 0) = S ++ bl p ++ z.take j := by
  unfold cur
  by_cases h : j = 0
  · rw [if_pos h, if_pos h, h, List.take_zero, List.append_nil]
  · rw [if_neg h, if_neg h, show bl 0 = [] from rfl, List.append_nil]
def S__law_lines : ASp := fun as Q => ∃ (rows : List (List (List Nat))) (m : Nat) (sides : List Nat), as = [.val ((wsD rows)) (.o 0), .val ((sdD sides)) (.o 0)] ∧ (Ta rows m sides) ∧ (Q (.list ((lns rows m sides).map zT)) (.o 1))
theorem r__law_lines {as : List SV} {Q : QE} {t : Tg Q} : CallK S__law_lines as Q t = (∃ (rows : List (List (List Nat))) (m : Nat) (sides : List Nat), as = [.val ((wsD rows)) (.o 0), .val ((sdD sides)) (.o 0)] ∧ (Ta rows m sides) ∧ (Q (.list ((lns rows m sides).map zT)) (.o 1))) := rfl
theorem h__law_lines : ∀ as Q, as.length = 2 → S__law_lines as Q → w__law_lines S__law_start { nx := fun _ => Q .none (.o 0), rt := Q } (pad N__law_lines.length as) := by
  rintro as Q hln ⟨rows, m, sides, rfl, hT, hq⟩
  clear hln
  show w__law_lines _ _ [.val ((wsD rows)) (.o 0), .val ((sdD sides)) (.o 0), .dead, .dead, .dead, .dead, .dead, .dead, .dead, .dead, .dead, .dead]
  unfold w__law_lines
  walk_at "al"
  have hT' := hT
  obtain ⟨t1, t2, t3, t4, t5, t6⟩ := hT
  refine for_map (f := wD) (fun i st => ∃ (x_row x_signs x_begin x_k x_room x_other x_start x_j x_turn : SV), st = [.val ((wsD rows)) (.o 0), .val ((sdD sides)) (.o 0), .val (.list (((lns rows m sides).take i).map zT)) (.o 1), x_row, x_signs, x_begin, x_k, x_room, x_other, x_start, x_j, x_turn]) ⟨_, _, _, _, _, _, _, _, _, rfl⟩ ?_ ?_
  · rintro i row st hi ⟨x_row, x_signs, x_begin, x_k, x_room, x_other, x_start, x_j, x_turn, rfl⟩
    have hr := List.mem_of_getElem? hi
    obtain ⟨cl, cc⟩ := ta_cells hT' hr
    have hrl := (t6 row hr).1
    (first | walk_at "al" | skip)
    rw [hrl]
    refine ⟨by omega, ?_⟩
    refine for_r1 (fun k st => ∃ (x_k x_room x_other x_start x_j x_turn : SV), st = [.val ((wsD rows)) (.o 0), .val ((sdD sides)) (.o 0), .val (.list (((lns rows m sides).take i).map zT)) (.o 1), .val ((wD row)) (.o 0), .val (.list (sg (((zc row (rms rows m) sides).take k).foldl cstep ([], 0)).1)) (.o 1), .val (.int (((((zc row (rms rows m) sides).take k).foldl cstep ([], 0)).2 : Nat))) (.o 0), x_k, x_room, x_other, x_start, x_j, x_turn]) ⟨_, _, _, _, _, _, rfl⟩ ?_ ?_
    · rintro k st hk ⟨x_k, x_room, x_other, x_start, x_j, x_turn, rfl⟩
      have hg : row[k]? = some row[k] := List.getElem?_eq_getElem (by omega)
      have hg2 : sides[k]? = some sides[k] := List.getElem?_eq_getElem (by omega)
      have hg3 : (rms rows m)[k]? = some (rmx rows k) := by unfold rms; rw [List.getElem?_map, List.getElem?_range hk]; rfl
      have hz1 := ((t6 row hr).2 row[k] (List.getElem_mem _)).1
      have hsd := t5 sides[k] (List.getElem_mem _)
      generalize row[k]'(by omega) = z at hg hz1
      generalize sides[k]'(by omega) = sd at hg2 hsd
      have hzc := zc_get hg hg3 hg2
      have hcz := cc _ (List.mem_of_getElem? hzc)
      have hlen := lws_len ((zc row (rms rows m) sides).take k) [] 0 (Nat.le_refl _) fun c hc => (cc c (List.mem_of_mem_take hc)).1.1
      have hbb : (((zc row (rms rows m) sides).take k).map fun c : Cell => c.2.1 + 2).sum ≤ 1000 := by
        have h5 : ∀ {cs : List Cell}, (∀ c ∈ cs, c.2.1 ≤ 50) → (cs.map fun c => c.2.1 + 2).sum ≤ 52 * cs.length := by
          intro cs
          induction cs with
          | nil => intro _; simp
          | cons a r ih =>
            intro h
            have := ih fun x hx => h x (List.mem_cons_of_mem _ hx)
            have := h a (List.mem_cons_self ..)
            rw [List.map_cons, List.sum_cons, List.length_cons]
            omega
        have h6 := h5 (cs := (zc row (rms rows m) sides).take k) fun c hc => (cc c (List.mem_of_mem_take hc)).2.1
        rw [List.length_take] at h6
        omega
      have hS : ((zc row (rms rows m) sides).take (k + 1)).foldl cstep ([], 0) = cstep (((zc row (rms rows m) sides).take k).foldl cstep ([], 0)) (z, rmx rows k, sd) := by
        rw [take_succ' hzc, List.foldl_append]
        rfl
      rw [hS]
      generalize ((zc row (rms rows m) sides).take k).foldl cstep ([], 0) = s at hlen
      obtain ⟨S, b⟩ := s
      obtain ⟨hl1, hl2⟩ := hlen
      have hl1 : S.length ≤ b := hl1
      have hb1 : b ≤ 1000 := by have : b = 0 + _ := hl2; omega
      (first | walk_at "al" | skip)
      refine for_map (f := wD) (fun t st => ∃ (x_other x_start x_j x_turn : SV), st = [.val ((wsD rows)) (.o 0), .val ((sdD sides)) (.o 0), .val (.list (((lns rows m sides).take i).map zT)) (.o 1), .val ((wD row)) (.o 0), .val (.list (sg S)) (.o 1), .val (.int ((b : Nat))) (.o 0), .val (.int ((k : Nat))) (.o 0), .val (.int ((rmx (rows.take t) k : Nat))) (.o 0), x_other, x_start, x_j, x_turn]) ⟨_, _, _, _, rfl⟩ ?_ ?_
      · rintro t other st ht ⟨x_other, x_start, x_j, x_turn, rfl⟩
        have hor := t6 other (List.mem_of_getElem? ht)
        have ho : other[k]? = some (other.getD k []) := by rw [List.getD_eq_getElem?_getD, List.getElem?_eq_getElem (by omega)]; rfl
        have hol := getD_le (fun z hz => (hor.2 z hz).1) k
        (first | walk_at "al" | skip)
        refine at_0 (d := zT (other.getD k [])) (by rw [atI_k, List.getElem?_map, ho]; rfl) ?_
        (first | walk_at "al" | skip)
        have hx : rmx (rows.take (t + 1)) k = if (other.getD k []).length > rmx (rows.take t) k then (other.getD k []).length else rmx (rows.take t) k := by unfold rmx; rw [take_succ' ht, List.foldl_append]; rfl
        rw [hx, tx_len]
        have e : (if (((other.getD k []).length : Nat) : Int) > (rmx (rows.take t) k : Nat) then (((other.getD k []).length : Nat) : Int) else (rmx (rows.take t) k : Nat)) = ((if (other.getD k []).length > rmx (rows.take t) k then (other.getD k []).length else rmx (rows.take t) k : Nat) : Int) := by split <;> split <;> omega
        rw [e]
        exact ⟨by rw [szv]; omega, _, _, _, _, rfl⟩
      · rintro st ⟨x_other, x_start, x_j, x_turn, rfl⟩
        (first | walk_at "al" | skip)
        rw [List.take_length]
        refine at_0 (d := zT z) (by rw [atI_k, List.getElem?_map, hg]; rfl) ?_
        (first | walk_at "al" | skip)
        refine at_0 (d := .str (sdS sd)) (by rw [atI_k, List.getElem?_map, hg2]; rfl) ?_
        (first | walk_at "al" | skip)
        simp only [r__law_start]
        refine ⟨z, rmx rows k, sd, rfl, hsd, hcz.1.1, by have : rmx rows k ≤ 50 := hcz.2.1; omega, ?_⟩
        (first | walk_at "al" | skip)
        refine at_0 (d := zT z) (by rw [atI_k, List.getElem?_map, hg]; rfl) ?_
        (first | walk_at "al" | skip)
        rw [tx_len]
        have hrm : rmx rows k ≤ 50 := hcz.2.1
        have hzr : z.length ≤ rmx rows k := hcz.1.1
        have hld := lead_le (L := z.length) (room := rmx rows k) (sd := sd)
        refine ⟨by rw [szv]; omega, by omega, ?_⟩
        have hcst : cstep (S, b) (z, rmx rows k, sd) = (cur S z (b + lead z.length (rmx rows k) sd - S.length) z.length, b + rmx rows k + 2) := by
          unfold cstep cur
          by_cases e : z = []
          · rw [if_pos e, if_pos (by rw [e]; rfl)]
          · rw [if_neg e, if_neg (fun q => e (List.length_eq_zero_iff.mp q)), List.take_length]
        rw [hcst]
        generalize lead z.length (rmx rows k) sd = ld at hld
        generalize rmx rows k = rm at hrm hzr hld
        refine for_r1 (fun j st => ∃ (x_other x_j x_turn : SV), st = [.val ((wsD rows)) (.o 0), .val ((sdD sides)) (.o 0), .val (.list (((lns rows m sides).take i).map zT)) (.o 1), .val ((wD row)) (.o 0), .val (.list (sg (cur S z (b + ld - S.length) j))) (.o 1), .val (.int ((b : Nat))) (.o 0), .val (.int ((k : Nat))) (.o 0), .val (.int ((rm : Nat))) (.o 0), x_other, .val (.int (((b : Int) + (ld : Nat)))) (.o 0), x_j, x_turn]) ⟨_, _, _, rfl⟩ ?_ ?_
        · rintro j st hj ⟨x_other, x_j, x_turn, rfl⟩
          have hcl := cur_len S z (b + ld - S.length) j (by omega)
          have hgz : z[j]? = some z[j] := List.getElem?_eq_getElem hj
          (first | walk_at "al" | skip)
          have hsl : (sg (cur S z (b + ld - S.length) j)).length = (cur S z (b + ld - S.length) j).length := by unfold sg; rw [List.length_map]
          rw [hsl]
          have hcnt : ((b : Int) + (ld : Nat) + (j : Nat) - ((cur S z (b + ld - S.length) j).length : Nat)).toNat = (if j = 0 then b + ld - S.length else 0) := by
            rw [hcl]
            split <;> omega
          have hcl2 : (cur S z (b + ld - S.length) j).length ≤ 2000 := by rw [hcl]; split <;> omega
          refine ⟨by omega, ?_⟩
          rw [hcnt]
          refine for_r1 (fun t st => ∃ (x_other x_turn : SV), st = [.val ((wsD rows)) (.o 0), .val ((sdD sides)) (.o 0), .val (.list (((lns rows m sides).take i).map zT)) (.o 1), .val ((wD row)) (.o 0), .val (.list (sg (cur S z (b + ld - S.length) j ++ bl t))) (.o 1), .val (.int ((b : Nat))) (.o 0), .val (.int ((k : Nat))) (.o 0), .val (.int ((rm : Nat))) (.o 0), x_other, .val (.int (((b : Int) + (ld : Nat)))) (.o 0), .val (.int ((j : Nat))) (.o 0), x_turn]) ⟨x_other, x_turn, by rw [show bl 0 = [] from rfl, List.append_nil]⟩ ?_ ?_
          · rintro t st ht ⟨x_other, x_turn, rfl⟩
            have ht2 : t < 2000 := by split at ht <;> omega
            (first | walk_at "al" | skip)
            rw [sg_bl]
            exact ⟨by rw [szv]; unfold sg; rw [List.length_map, List.length_append, bl_len]; omega, _, _, rfl⟩
          · rintro st ⟨x_other, x_turn, rfl⟩
            (first | walk_at "al" | skip)
            rw [cur_bl S z (b + ld - S.length) j]
            refine at_0 (d := zT z) (by rw [atI_k, List.getElem?_map, hg]; rfl) ?_
            (first | walk_at "al" | skip)
            refine ⟨by rw [tx_len, szv]; omega, ats_ (c := z[j]) (by rw [atI_k]; exact hgz) ?_⟩
            (first | walk_at "al" | skip)
            have hfin : sg (S ++ bl (b + ld - S.length) ++ z.take j) ++ [PyData.str ⟨#[z[j]]⟩] = sg (cur S z (b + ld - S.length) (j + 1)) := by
              unfold cur sg
              rw [if_neg (by omega), take_succ' hgz, ← List.append_assoc, List.map_append (l₂ := [z[j]])]
              rfl
            rw [hfin]
            exact ⟨by rw [szv]; unfold sg; rw [List.length_map, List.length_append, List.length_append, bl_len, List.length_take]; omega, _, _, _, rfl⟩
        · rintro st ⟨x_other, x_j, x_turn, rfl⟩
          (first | walk_at "al" | skip)
          rw [show ((b : Int) + (rm : Nat) + 2) = ((b + rm + 2 : Nat) : Int) by omega]
          exact ⟨_, _, _, _, _, _, rfl⟩
    · rintro st ⟨x_k, x_room, x_other, x_start, x_j, x_turn, rfl⟩
      have htk : (zc row (rms rows m) sides).take m = zc row (rms rows m) sides := List.take_of_length_le (by omega)
      rw [htk]
      have hl1 : (lws (zc row (rms rows m) sides)).length ≤ 2000 := by
        have h1 := lws_len (zc row (rms rows m) sides) [] 0 (Nat.le_refl _) fun c hc => (cc c hc).1.1
        have h5 : ∀ {cs : List Cell}, (∀ c ∈ cs, c.2.1 ≤ 50) → (cs.map fun c => c.2.1 + 2).sum ≤ 52 * cs.length := by
          intro cs
          induction cs with
          | nil => intro _; simp
          | cons a r ih =>
            intro h
            have := ih fun x hx => h x (List.mem_cons_of_mem _ hx)
            have := h a (List.mem_cons_self ..)
            rw [List.map_cons, List.sum_cons, List.length_cons]
            omega
        have h6 := h5 fun c hc => (cc c hc).2.1
        unfold lws
        omega
      have hln : (lns rows m sides)[i]? = some (lws (zc row (rms rows m) sides)) := by unfold lns; rw [List.getElem?_map, hi]; rfl
      rw [take_succ' hln, List.map_append]
      (first | walk_at "al" | skip)
      show JoinK "" (sg (lws (zc row (rms rows m) sides))) _ _
      refine join_s ((lws (zc row (rms rows m) sides)).map fun c => (⟨#[c]⟩ : Str)) (by unfold sg; rw [List.map_map]; rfl) (by rw [sg_sum, show ("" : Str).length = 0 by decide]; omega) ?_
      rw [sg_join]
      exact ⟨rfl, by rw [szv, List.length_map, List.length_take]; unfold lns; rw [List.length_map]; omega, _, _, _, _, _, _, _, _, _, rfl⟩
  · rintro st ⟨x_row, x_signs, x_begin, x_k, x_room, x_other, x_start, x_j, x_turn, rfl⟩
    (first | walk_at "al" | skip)
    rw [List.take_of_length_le (by unfold lns; rw [List.length_map]; exact Nat.le_refl _)]
    exact hq
end LW

namespace LW
open PySem PySem.Spec PyProof.Rows L2 AL
local macro_rules | `(tactic| walk_at "al") => `(tactic| simp only [↓br_t, ↓br_f, ↓br_not, ↓br_dec, ↓r_put0, ↓r_putS, ↓r_next, ↓r_pass, ↓r_brk, ↓r_cnt, ↓r_seq, ↓r_ret, ↓r_retN, ↓r_ifS, ↓r_var, ↓r_var0, ↓r_var1, ↓r_varb, ↓r_varS, ↓r_retV, ↓r_retV0, ↓r_retVS, ↓r_C, ↓r_w2, ↓r_w1, ↓r_tst, ↓r_tstK, ↓r_and, ↓r_or, ↓r_not, ↓r_yes, ↓r_if, ↓r_andV, ↓r_orV, ↓r_notV, ↓r_andK, ↓r_orK, ↓r_notK, ↓r_addI, ↓r_addS, ↓r_addL, ↓r_addLb, ↓r_addLc, ↓r_addLd, ↓r_addT, ↓r_sub, ↓r_mul, ↓r_div, ↓r_divN, ↓r_mod, ↓r_modN, ↓r_pow, ↓r_rep, ↓r_repb, ↓r_neg, ↓r_negK, ↓r_max2, ↓r_min2, ↓r_lt, ↓r_le, ↓r_gt, ↓r_ge, ↓r_eqI, ↓r_eqS, ↓r_eqB, ↓r_neI, ↓r_neS, ↓r_neB, ↓r_in, ↓r_notIn, ↓r_eqLL, ↓r_neLL, ↓r_eqLT, ↓r_neLT, ↓r_eqLN, ↓r_neLN, ↓r_eqLI, ↓r_neLI, ↓r_eqLS, ↓r_neLS, ↓r_eqLB, ↓r_neLB, ↓r_eqTL, ↓r_neTL, ↓r_eqTT, ↓r_neTT, ↓r_eqTN, ↓r_neTN, ↓r_eqTI, ↓r_neTI, ↓r_eqTS, ↓r_neTS, ↓r_eqTB, ↓r_neTB, ↓r_eqNL, ↓r_neNL, ↓r_eqNT, ↓r_neNT, ↓r_eqNN, ↓r_neNN, ↓r_eqNI, ↓r_neNI, ↓r_eqNS, ↓r_neNS, ↓r_eqNB, ↓r_neNB, ↓r_eqIL, ↓r_neIL, ↓r_eqIT, ↓r_neIT, ↓r_eqIN, ↓r_neIN, ↓r_eqIS, ↓r_neIS, ↓r_eqIB, ↓r_neIB, ↓r_eqSL, ↓r_neSL, ↓r_eqST, ↓r_neST, ↓r_eqSN, ↓r_neSN, ↓r_eqSI, ↓r_neSI, ↓r_eqSB, ↓r_neSB, ↓r_eqBL, ↓r_neBL, ↓r_eqBT, ↓r_neBT, ↓r_eqBN, ↓r_neBN, ↓r_eqBI, ↓r_neBI, ↓r_eqBS, ↓r_neBS, ↓r_isN, ↓r_notN, ↓r_isn_none, ↓r_non_none, ↓r_isn_bool, ↓r_non_bool, ↓r_isn_int, ↓r_non_int, ↓r_isn_str, ↓r_non_str, ↓r_isn_list, ↓r_non_list, ↓r_isn_tuple, ↓r_non_tuple, ↓r_isi, ↓r_isi_none_bool, ↓r_isi_none_int, ↓r_isi_none_str, ↓r_isi_none_list, ↓r_isi_none_tuple, ↓r_isi_bool_bool, ↓r_isi_bool_int, ↓r_isi_bool_str, ↓r_isi_bool_list, ↓r_isi_bool_tuple, ↓r_isi_int_bool, ↓r_isi_int_int, ↓r_isi_int_str, ↓r_isi_int_list, ↓r_isi_int_tuple, ↓r_isi_str_bool, ↓r_isi_str_int, ↓r_isi_str_str, ↓r_isi_str_list, ↓r_isi_str_tuple, ↓r_isi_list_bool, ↓r_isi_list_int, ↓r_isi_list_str, ↓r_isi_list_list, ↓r_isi_list_tuple, ↓r_isi_tuple_bool, ↓r_isi_tuple_int, ↓r_isi_tuple_str, ↓r_isi_tuple_list, ↓r_isi_tuple_tuple, ↓r_isBl_none, ↓r_isBl_bool_true, ↓r_isBl_bool_false, ↓r_isBl_int, ↓r_isBl_str, ↓r_isBl_list, ↓r_isBl_tuple, ↓r_notBl_none, ↓r_notBl_bool_true, ↓r_notBl_bool_false, ↓r_notBl_int, ↓r_notBl_str, ↓r_notBl_list, ↓r_notBl_tuple, ↓r_ixL, ↓r_ixT, ↓r_ixS, ↓r_md_o, ↓r_md_b, ↓r_scK_none, ↓r_scK_bool, ↓r_scK_int, ↓r_scK_str, ↓r_scK_list, ↓r_scK_tuple, ↓r_at0, ↓r_atl0, ↓r_atb0, ↓r_atT0, ↓r_atTb0, ↓r_atT1, ↓r_atTb1, ↓r_atT2, ↓r_atTb2, ↓r_atT3, ↓r_atT4, ↓r_sl, ↓r_slK, ↓r_on, ↓r_os, ↓r_osK, ↓r_aSlL, ↓r_aSlLb, ↓r_aSlT, ↓r_aSlS, ↓r_revL, ↓r_revK, ↓r_revKb, ↓r_ln, ↓r_lc, ↓r_lcK, ↓r_lst, ↓r_tup, ↓r_eOk0, ↓r_okK0, ↓r_set, ↓r_setO, ↓r_setN, ↓r_setb_none, ↓r_setb_bool, ↓r_setb_int, ↓r_setb_str, ↓r_fzK, ↓r_fz0, ↓r_fz00, ↓r_fzd, ↓r_fzS, ↓r_drop, ↓r_aug, ↓r_aug0, ↓r_augS, ↓r_iaddI, ↓r_iaddS, ↓r_app, ↓r_app0, ↓r_appS, ↓r_sat, ↓r_sat0, ↓r_satI, ↓r_satS, ↓r_gat, ↓r_gat0, ↓r_gatS, ↓r_augI, ↓r_an, ↓r_av, ↓r_avO, ↓r_avb_none, ↓r_avb_bool, ↓r_avb_int, ↓r_avb_str, ↓r_avb_list, ↓r_avb_tuple, ↓r_as, ↓r_as0, ↓r_asS, ↓r_ab, ↓r_ab0, ↓r_abS, ↓r_ub0, ↓r_ubV, ↓r_ubB, ↓r_ubX, ↓r_ubY, ↓r_call, ↓r_cl0, ↓r_clV, ↓r_clB, ↓r_clX, ↓r_clY, ↓r_draw, ↓r_lenL, ↓r_lenT, ↓r_lenS, ↓r_int, ↓r_intB, ↓r_listL, ↓r_listLb, ↓r_listT, ↓r_tupL, ↓r_tupLb, ↓r_tupT, ↓r_sum, ↓r_max, ↓r_min, ↓r_any, ↓r_all, ↓r_abs, ↓r_str, ↓r_reprI, ↓r_reprS, ↓r_lenScr, ↓r_lenScr0, ↓r_atScr, ↓r_atScr0, ↓r_atSI, ↓r_chn, ↓r_chn1, ↓r_chn2, ↓r_chn3, ↓br_cLt, ↓br_cLe, ↓br_cGt, ↓br_cGe, ↓r_R1, ↓r_rgK, ↓r_R2, ↓r_rgK2, ↓r_lstR, ↓r_tupR, ↓r_iter, ↓r_itL, ↓r_itLb, ↓r_itT, ↓r_itTb, ↓r_itS, ↓r_rng1, ↓r_rn1K, ↓r_rng2, ↓r_rn2K, ↓r_rngD, ↓r_rnDK, ↓r_enum, ↓r_enK, ↓r_enKb, ↓r_zip, ↓r_zpL, ↓r_zpLb, ↓r_zpLc, ↓r_zpT, ↓r_rev, ↓r_rvL, ↓r_rvLb, ↓r_rvT, ↓r_revR, ↓r_gNm, ↓r_nmO, ↓r_nmb_none, ↓r_nmb_bool, ↓r_nmb_int, ↓r_nmb_str, ↓r_nmb_list, ↓r_nmb_tuple, ↓r_gTp, ↓r_gNl, ↓r_gCsO, ↓r_gCsB, ↓r_asg, ↓r_for, ↓r_forK, ↓r_whl, ↓r_wip0, ↓r_wipS, ↓r_comp, ↓r_compN, ↓r_cmpK, ↓r_itmO, ↓r_itmB, ↓r_eAccS, ↓r_eAccN, ↓r_sortL, ↓r_sortLb, ↓br_iff, ↓r_wM1, ↓r_m1K, ↓r_starts, ↓r_ends, ↓r_find, ↓r_count, ↓r_rstrip, ↓r_lstrip, ↓r_strip, ↓r_ljust, ↓r_rjust, ↓r_join, ↓r_sRep, ↓r_idx, ↓r_idK, ↓r_insert, ↓r_ins0, ↓r_insS, ↓r_insJ, ↓r_pop, ↓r_setPop, ↓r_pop0, ↓r_popS, ↓r_popJ, ↓r_eOkS, ↓r_extend, ↓r_ext0, ↓r_extS, ↓r_exJ, ↓r_exJb, ↓r_aap, ↓r_aa0, ↓r_aaS, ↓r_aaJ, ↓r_s2, ↓r_s20, ↓r_s2S, ↓r_s2J, ↓r_s2J2, ↓r_wM2, ↓r_m2K, ↓r_starts3, ↓r_sumAL, ↓r_sumAT, ↓r_bestL, ↓r_bestT, ↓r_repT, ↓r_intS, ↓r_ali, ↓r_ali0, ↓r_aliS, ↓r_aliJ, ↓r_DD, ↓r_atO, ↓r_ato0, ↓r_atoS, ↓r_atoJ, ↓r_enumA, ↓r_enA2, ↓r_enA2b, ↓r_enA2t, ↓r_enA2tb, ↓r_sixK, ↓r_tidx, ↓r_tiK, ↓r_comp2, ↓r_cmp2K, ↓r_isOo, ↓r_never, ↓r_dnew, ↓r_datI, ↓r_datS, ↓r_dinI, ↓r_dinS, ↓r_dninI, ↓r_dninS, ↓r_dput, ↓r_dput0, ↓r_dputS, ↓r_dputI, ↓r_dputT, ↓r_wPn, ↓r_wPc, ↓r_ppI, ↓r_ppS, ↓r_dsp, ↓r_get2, ↓r_get2K, ↓r_get2I, ↓r_get2S, ↓r_lenD, ↓r_lenDK, ↓r_dcomp, ↓r_dcK, ↓r_rngC, ↓r_rcK, ↓r_tupR3, ↓r_t3K, ↓r_pad3, ↓r_zipM, ↓r_zmL, ↓r_zmLb, ↓r_zmLc, ↓r_zip3, ↓r_z3L, ↓r_zip3, ↓r_z3L, ↓r_gTc, true_and, and_true, decide_true, decide_false, true_or, or_true, or_false, false_or, eq_self, inB, Int.reduceLT, Int.reduceLE, Int.reduceToNat, Int.reduceNeg, Nat.reducePow, Int.reducePow, Int.reduceAdd, Int.reduceSub, Int.reduceMul, Int.reduceEq, Int.reduceMod, Int.reduceDiv, Nat.reduceMul, Nat.reduceSub, Nat.reduceEqDiff, Int.reduceGT, Int.reduceGE, false_and, and_false, imp_false, true_implies, false_implies, implies_true, not_true_eq_false, Bool.not_true, Bool.not_false, not_false_eq_true, List.length_cons, List.length_nil, Nat.zero_add, Nat.reduceAdd, Nat.reduceLeDiff, Nat.reduceLT, PyData.bool.injEq, Bool.true_eq_false, Bool.false_eq_true, reduceCtorEq, Option.some.injEq, List.length_map, List.length_range, List.length_reverse, List.length_append, Int.toNat_natCast, Int.zero_add, Int.mul_one, PyData.int.injEq, z_le0, z_lt0, zc_0, z_le1, z_lt1, zc_1, z_le2, z_lt2, zc_2, z_le3, z_lt3, zc_3, z_le4, z_lt4, zc_4, z_le5, z_lt5, zc_5, z_le6, z_lt6, zc_6, z_le7, z_lt7, zc_7, z_le8, z_lt8, zc_8, z_le9, z_lt9, zc_9, z_le10, z_lt10, zc_10, z_le11, z_lt11, zc_11, z_le12, z_lt12, zc_12, z_le13, z_lt13, zc_13, z_le14, z_lt14, zc_14, z_le15, z_lt15, zc_15, z_le16, z_lt16, zc_16])
theorem rg_len (lo c : Int) (n : Nat) : (rngs lo c n).length = n := by unfold rngs; rw [List.length_map, List.length_range]
def Wo (z : List Nat) : Prop := z.length ≤ 50 ∧ NB z ∧ ∀ c ∈ z, c < 128
theorem sg_of : ∀ {acc : List PyData}, (∀ d ∈ acc, ∃ c : Nat, c < 128 ∧ d = .str ⟨#[c]⟩) → ∃ S : List Nat, acc = sg S ∧ S.length = acc.length ∧ ∀ c ∈ S, c < 128
  | [], _ => ⟨[], rfl, rfl, fun c h => by cases h⟩
  | d :: r, h => by
    obtain ⟨c, hc, rfl⟩ := h d (List.mem_cons_self ..)
    obtain ⟨S, e1, e2, e3⟩ := sg_of (acc := r) fun x hx => h x (List.mem_cons_of_mem _ hx)
    refine ⟨c :: S, by rw [e1]; rfl, by rw [List.length_cons, e2]; rfl, fun x hx => ?_⟩
    rcases List.mem_cons.mp hx with rfl | hx
    · exact hc
    · exact e3 x hx
theorem dEq_sgn (S : List Nat) : dEqOk (.list (sg S)) (.list []) = (S.all fun c => decide (c < 128)) ∨ True := .inr trivial
theorem shp_sg {S : List Nat} (h : ∀ c ∈ S, c < 128) : Shp 1 (.list (sg S)) := Shp.list (n := 0) fun d hd => by
  obtain ⟨c, hc, rfl⟩ := List.mem_map.mp hd
  exact Shp.str (okS_strOk fun y hy => by rw [show y = c by simpa using hy]; exact h c hc)
theorem ok_sgn {S : List Nat} (h : ∀ c ∈ S, c < 128) : dEqOk (.list (sg S)) (.list []) = true ∧ dEq (.list (sg S)) (.list []) = S.isEmpty := by
  refine ⟨dEqOk_of ((shp_sg h).mono (by decide)) ((Shp.list (n := 1) fun d hd => by cases hd).mono (by decide)), ?_⟩
  cases S with
  | nil => exact dEq_nilI []
  | cons x S =>
    cases e : dEq (.list (sg (x :: S))) (.list []) with
    | false => rfl
    | true =>
      have nb : nbd (.list (sg (x :: S))) = true := nbdAll_iff.mpr fun d hd => by
        obtain ⟨q, _, rfl⟩ := List.mem_map.mp hd
        rfl
      have := (dEq_nbd nb (show nbd (.list []) = true from rfl)).mp e
      cases this
theorem bl_cps : (" " : Str).cps.toList = [32] := by decide
theorem ch_bl (c : Nat) : ((⟨#[c]⟩ : Str) = " ") ↔ c = 32 := ⟨fun e => by
    have h := congrArg (fun x : Str => x.cps.toList) e
    have h : [c] = (" " : Str).cps.toList := h
    rw [bl_cps] at h
    exact (List.cons.inj h).1, fun e => by rw [e]; exact str_ext (by rw [bl_cps])⟩
def S__law_words : ASp := fun as Q => as = [.box] ∧ (∀ z : List Nat, Wo z → Q (.str (tx z)) (.o 0))
theorem r__law_words {as : List SV} {Q : QE} {t : Tg Q} : CallK S__law_words as Q t = (as = [.box] ∧ (∀ z : List Nat, Wo z → Q (.str (tx z)) (.o 0))) := rfl
theorem h__law_words : ∀ as Q, as.length = 1 → S__law_words as Q → w__law_words aspDraw aspPick { nx := fun _ => Q .none (.o 0), rt := Q } (pad N__law_words.length as) := by
  rintro as Q hln ⟨rfl, hq⟩
  clear hln
  show w__law_words _ _ _ [.box, .dead, .dead, .dead]
  unfold w__law_words
  walk_at "al"
  intro a a0 a1
  simp only [r_pickL]
  refine ⟨by simp, by simp, fun d hd => ?_⟩
  obtain ⟨n, rfl, n1⟩ : ∃ n : Nat, d = .int (n : Nat) ∧ n ≤ 10 := by
    have key : ∀ z : Int, 0 ≤ z → z ≤ 10 → ∃ n : Nat, PyData.int z = .int (n : Nat) ∧ n ≤ 10 := fun z h1 h2 => ⟨z.toNat, by rw [Int.toNat_of_nonneg h1], by omega⟩
    simp only [List.mem_cons, List.not_mem_nil, or_false] at hd
    rcases hd with rfl | rfl | rfl | rfl | rfl | rfl <;> exact key _ (by omega) (by omega)
  clear hd
  (first | walk_at "al" | skip)
  refine ⟨by omega, ?_⟩
  refine cmp_each (fun d => ∃ c : Nat, c < 128 ∧ d = .str ⟨#[c]⟩) (by rw [szv, rg_len]; omega) (fun d hd K N hK => ?_) fun acc hacc1 hacc2 => ?_
  · (first | walk_at "al" | skip)
    simp only [r_pickS]
    refine ⟨by decide, by decide, fun c hc => ?_⟩
    have hc128 : c < 128 := (show ∀ c ∈ ("abcxyz,.-AZ09  " : Str).cps.toList, c < 128 by decide) c hc
    exact ⟨rfl, hK _ ⟨c, hc128, rfl⟩⟩
  obtain ⟨S, rfl, hS1, hS2⟩ := sg_of hacc2
  rw [rg_len] at hacc1
  rw [hacc1] at hS1
  clear hacc2 hacc1
  refine join_ (fun st => ∃ (S : List Nat) (x_k : SV), S.length = n ∧ (∀ c ∈ S, c < 128) ∧ st = [.box, .val (.int ((n : Nat))) (.o 0), .val (.list (sg S)) (.o 1), x_k]) (fun K hK => ?_) ?_
  · (first | walk_at "al" | skip)
    refine ⟨(ok_sgn hS2).1, ?_⟩
    rw [(ok_sgn hS2).2]
    match S, hS1, hS2 with
    | [], hS1, hS2 => exact hK _ ⟨[], _, hS1, hS2, rfl⟩
    | c :: r, hS1, hS2 =>
      rw [show (c :: r).isEmpty = false from rfl, br_f]
      refine at_b (d := .str ⟨#[c]⟩) (by rw [show (0 : Int) = ((0 : Nat) : Int) from rfl, atI_k]; rfl) ?_
      (first | walk_at "al" | skip)
      refine ⟨fun _ => ?_, fun _ => hK _ ⟨c :: r, _, hS1, hS2, rfl⟩⟩
      refine sat_ (p := 0) (by rw [show (0 : Int) = ((0 : Nat) : Int) from rfl]; exact ixN_k (by unfold sg; simp)) ?_
      (first | walk_at "al" | skip)
      refine hK _ ⟨113 :: r, _, hS1, fun x hx => ?_, rfl⟩
      rcases List.mem_cons.mp hx with rfl | hx
      · decide
      · exact hS2 x (List.mem_cons_of_mem _ hx)
  clear hS1 hS2 S
  rintro st ⟨S, x_k, hS1, hS2, rfl⟩
  refine join_ (fun st => ∃ (S : List Nat) (x_k : SV), S.length = n ∧ (∀ c ∈ S, c < 128) ∧ NB S ∧ st = [.box, .val (.int ((n : Nat))) (.o 0), .val (.list (sg S)) (.o 1), x_k]) (fun K hK => ?_) ?_
  · (first | walk_at "al" | skip)
    refine ⟨(ok_sgn hS2).1, ?_⟩
    rw [(ok_sgn hS2).2]
    rcases List.eq_nil_or_concat S with rfl | ⟨r, c, rfl⟩
    · exact hK _ ⟨[], _, hS1, hS2, (fun a c e => by cases a <;> cases e), rfl⟩
    · rw [List.concat_eq_append] at hS1 hS2 ⊢
      rw [List.length_append] at hS1
      have hS1 : r.length + 1 = n := hS1
      have hN : ((n : Nat) : Int) - 1 = (r.length : Nat) := by omega
      have hE : (r ++ [c]).isEmpty = false := by cases r <;> rfl
      rw [hE, hN, br_f]
      refine at_b (d := .str ⟨#[c]⟩) (by rw [atI_k]; unfold sg; rw [List.map_append, List.getElem?_append_right (by simp)]; simp) ?_
      have nbl : ∀ d : Nat, d ≠ 32 → NB (r ++ [d]) := fun d hd a x e => by
        have h := (List.append_inj' e rfl).2
        have h : d = x := by simpa using h
        rw [← h]
        exact hd
      (first | walk_at "al" | skip)
      refine ⟨fun _ => ?_, fun h => hK _ ⟨r ++ [c], _, by rw [List.length_append]; exact hS1, hS2, nbl c (fun e => h ((ch_bl c).mpr e)), rfl⟩⟩
      rw [hN]
      refine sat_ (p := r.length) (ixN_k (by unfold sg; simp)) ?_
      (first | walk_at "al" | skip)
      refine hK _ ⟨r ++ [119], x_k, by rw [List.length_append]; exact hS1, fun x hx => ?_, nbl 119 (by decide), ?_⟩
      · rcases List.mem_append.mp hx with hx | hx
        · exact hS2 x (List.mem_append_left _ hx)
        · rw [show x = 119 by simpa using hx]; decide
      · have : (sg (r ++ [c])).set r.length (.str "w") = sg (r ++ [119]) := by
          unfold sg
          rw [List.map_append, List.map_append, List.set_append_right _ _ (by simp)]
          simp
          rfl
        rw [this]
  clear hS1 hS2 S
  rintro st ⟨S, x_k, hS1, hS2, hS3, rfl⟩
  (first | walk_at "al" | skip)
  refine join_s (S.map fun c => (⟨#[c]⟩ : Str)) (by unfold sg; rw [List.map_map]; rfl) (by rw [sg_sum, show ("" : Str).length = 0 by decide]; omega) ?_
  rw [sg_join]
  exact hq S ⟨by omega, hS3, hS2⟩
theorem tx_ok {n : Nat} {S : List Nat} (h : ∀ c ∈ S, c < 128) (hl : S.length ≤ 10000) : smOk (n + 1) (.str (tx S)) := by
  have := okS_repr (z := tx S) h
  refine smOk_s (Nat.le_trans this ?_)
  rw [tx_len, szv]
  omega
theorem bl_ok {n : Nat} : ∀ c ∈ bl n, c < 128 := fun c h => by rw [(List.mem_replicate.mp h).2]; decide
theorem tx_bl (S : List Nat) (t : Nat) : tx (S ++ bl t) ++ " " = tx (S ++ bl (t + 1)) := by
  rw [show (" " : Str) = tx [32] from str_ext bl_cps, tx_cat, List.append_assoc]
  unfold bl
  rw [List.replicate_succ']
def S__law_put : ASp := fun as Q => ∃ (sd : Nat), as = [.box, .val (.str ((sdS sd))) (.o 0)] ∧ (sd < 3) ∧ (Q (.bool true) (.o 0))
theorem r__law_put {as : List SV} {Q : QE} {t : Tg Q} : CallK S__law_put as Q t = (∃ (sd : Nat), as = [.box, .val (.str ((sdS sd))) (.o 0)] ∧ (sd < 3) ∧ (Q (.bool true) (.o 0))) := rfl
theorem h__law_put : ∀ as Q, as.length = 2 → S__law_put as Q → w__law_put S__law_words aspDraw aspPick S__law_start S_put_text (aspSame 4) { nx := fun _ => Q .none (.o 0), rt := Q } (pad N__law_put.length as) := by
  rintro as Q hln ⟨sd, rfl, hs, hq⟩
  clear hln
  show w__law_put _ _ _ _ _ _ _ [.box, .val (.str ((sdS sd))) (.o 0), .dead, .dead, .dead, .dead]
  unfold w__law_put
  walk_at "al"
  simp only [r__law_words]
  refine ⟨trivial, fun z hz => ?_⟩
  (first | walk_at "al" | skip)
  rw [tx_len]
  obtain ⟨z1, z2, z3⟩ := hz
  refine ⟨by rw [szv]; omega, fun r r0 r1 => ?_⟩
  simp only [r_pickL]
  refine ⟨by simp, by simp, fun d hd => ?_⟩
  obtain ⟨n, rfl, n1⟩ : ∃ n : Nat, d = .int (n : Nat) ∧ n ≤ 21 := by
    have key : ∀ z : Int, 0 ≤ z → z ≤ 21 → ∃ n : Nat, PyData.int z = .int (n : Nat) ∧ n ≤ 21 := fun z h1 h2 => ⟨z.toNat, by rw [Int.toNat_of_nonneg h1], by omega⟩
    simp only [List.mem_cons, List.not_mem_nil, or_false] at hd
    rcases hd with rfl | rfl | rfl | rfl | rfl <;> exact key _ (by omega) (by omega)
  clear hd
  (first | walk_at "al" | skip)
  rw [show ((z.length : Nat) : Int) + (n : Nat) = ((z.length + n : Nat) : Int) by omega]
  have hroom : z.length ≤ z.length + n := by omega
  have hrm : z.length + n ≤ 71 := by omega
  have hld := lead_le (L := z.length) (room := z.length + n) (sd := sd)
  have hpl := part_len (z := z) (room := z.length + n) (sd := sd) hroom
  have hpt : part z (z.length + n) sd = bl (lead z.length (z.length + n) sd) ++ z ++ bl (z.length + n - z.length - lead z.length (z.length + n) sd) := rfl
  generalize z.length + n = rm at hroom hrm hld hpl hpt
  simp only [r__law_start]
  refine ⟨z, rm, sd, rfl, hs, hroom, by omega, ?_⟩
  (first | walk_at "al" | skip)
  generalize hle : lead z.length rm sd = le at hld hpt
  refine ⟨by omega, ?_⟩
  refine for_r1 (fun t st => ∃ (x_k : SV), st = [.box, .val (.str ((sdS sd))) (.o 0), .val (.str ((tx z))) (.o 0), .val (.int ((rm : Nat))) (.o 0), .val (.str ((tx ([] ++ bl t)))) (.o 0), x_k]) ⟨_, rfl⟩ ?_ ?_
  · rintro t st ht ⟨x_k, rfl⟩
    (first | walk_at "al" | skip)
    rw [tx_bl]
    exact ⟨by rw [tx_len, szv, List.nil_append, bl_len, show (" " : Str).length = 1 by decide]; omega, _, rfl⟩
  rintro st ⟨x_k, rfl⟩
  (first | walk_at "al" | skip)
  rw [List.nil_append, tx_cat, tx_len, tx_len, tx_len, List.length_append, bl_len]
  refine ⟨by rw [szv]; omega, by rw [szv]; omega, by omega, ?_⟩
  rw [show ((rm : Int) - ((le + z.length : Nat) : Int)).toNat = rm - z.length - le by omega]
  refine for_r1 (fun t st => ∃ (x_k : SV), st = [.box, .val (.str ((sdS sd))) (.o 0), .val (.str ((tx z))) (.o 0), .val (.int ((rm : Nat))) (.o 0), .val (.str ((tx (bl le ++ z ++ bl t)))) (.o 0), x_k]) ⟨x_k, by rw [show bl 0 = [] from rfl, List.append_nil]⟩ ?_ ?_
  · rintro t st ht ⟨x_k, rfl⟩
    (first | walk_at "al" | skip)
    rw [tx_bl]
    exact ⟨by rw [tx_len, szv, List.length_append, List.length_append, bl_len, bl_len, show (" " : Str).length = 1 by decide]; omega, _, rfl⟩
  rintro st ⟨x_k, rfl⟩
  rw [← hpt]
  (first | walk_at "al" | skip)
  simp only [r_put_text]
  refine ⟨z, rm, sd, rfl, hs, hroom, by omega, ?_⟩
  (first | walk_at "al" | skip)
  simp only [r_same]
  refine ⟨trivial, ?_, ?_⟩
  · refine tx_ok (fun c hc => ?_) (by omega)
    rw [hpt] at hc
    rcases List.mem_append.mp hc with hc | hc
    · rcases List.mem_append.mp hc with hc | hc
      · exact bl_ok c hc
      · exact z3 c hc
    · exact bl_ok c hc
  (first | walk_at "al" | skip)
  rw [tx_len, hpl]
  refine ⟨by rw [szv]; omega, ?_⟩
  rw [decide_eq_true rfl]
  exact hq
end LW

namespace LW
open PySem PySem.Spec PyProof.Rows L2 AL
local macro_rules | `(tactic| walk_at "al") => `(tactic| simp only [↓br_t, ↓br_f, ↓br_not, ↓br_dec, ↓r_put0, ↓r_putS, ↓r_next, ↓r_pass, ↓r_brk, ↓r_cnt, ↓r_seq, ↓r_ret, ↓r_retN, ↓r_ifS, ↓r_var, ↓r_var0, ↓r_var1, ↓r_varb, ↓r_varS, ↓r_retV, ↓r_retV0, ↓r_retVS, ↓r_C, ↓r_w2, ↓r_w1, ↓r_tst, ↓r_tstK, ↓r_and, ↓r_or, ↓r_not, ↓r_yes, ↓r_if, ↓r_andV, ↓r_orV, ↓r_notV, ↓r_andK, ↓r_orK, ↓r_notK, ↓r_addI, ↓r_addS, ↓r_addL, ↓r_addLb, ↓r_addLc, ↓r_addLd, ↓r_addT, ↓r_sub, ↓r_mul, ↓r_div, ↓r_divN, ↓r_mod, ↓r_modN, ↓r_pow, ↓r_rep, ↓r_repb, ↓r_neg, ↓r_negK, ↓r_max2, ↓r_min2, ↓r_lt, ↓r_le, ↓r_gt, ↓r_ge, ↓r_eqI, ↓r_eqS, ↓r_eqB, ↓r_neI, ↓r_neS, ↓r_neB, ↓r_in, ↓r_notIn, ↓r_eqLL, ↓r_neLL, ↓r_eqLT, ↓r_neLT, ↓r_eqLN, ↓r_neLN, ↓r_eqLI, ↓r_neLI, ↓r_eqLS, ↓r_neLS, ↓r_eqLB, ↓r_neLB, ↓r_eqTL, ↓r_neTL, ↓r_eqTT, ↓r_neTT, ↓r_eqTN, ↓r_neTN, ↓r_eqTI, ↓r_neTI, ↓r_eqTS, ↓r_neTS, ↓r_eqTB, ↓r_neTB, ↓r_eqNL, ↓r_neNL, ↓r_eqNT, ↓r_neNT, ↓r_eqNN, ↓r_neNN, ↓r_eqNI, ↓r_neNI, ↓r_eqNS, ↓r_neNS, ↓r_eqNB, ↓r_neNB, ↓r_eqIL, ↓r_neIL, ↓r_eqIT, ↓r_neIT, ↓r_eqIN, ↓r_neIN, ↓r_eqIS, ↓r_neIS, ↓r_eqIB, ↓r_neIB, ↓r_eqSL, ↓r_neSL, ↓r_eqST, ↓r_neST, ↓r_eqSN, ↓r_neSN, ↓r_eqSI, ↓r_neSI, ↓r_eqSB, ↓r_neSB, ↓r_eqBL, ↓r_neBL, ↓r_eqBT, ↓r_neBT, ↓r_eqBN, ↓r_neBN, ↓r_eqBI, ↓r_neBI, ↓r_eqBS, ↓r_neBS, ↓r_isN, ↓r_notN, ↓r_isn_none, ↓r_non_none, ↓r_isn_bool, ↓r_non_bool, ↓r_isn_int, ↓r_non_int, ↓r_isn_str, ↓r_non_str, ↓r_isn_list, ↓r_non_list, ↓r_isn_tuple, ↓r_non_tuple, ↓r_isi, ↓r_isi_none_bool, ↓r_isi_none_int, ↓r_isi_none_str, ↓r_isi_none_list, ↓r_isi_none_tuple, ↓r_isi_bool_bool, ↓r_isi_bool_int, ↓r_isi_bool_str, ↓r_isi_bool_list, ↓r_isi_bool_tuple, ↓r_isi_int_bool, ↓r_isi_int_int, ↓r_isi_int_str, ↓r_isi_int_list, ↓r_isi_int_tuple, ↓r_isi_str_bool, ↓r_isi_str_int, ↓r_isi_str_str, ↓r_isi_str_list, ↓r_isi_str_tuple, ↓r_isi_list_bool, ↓r_isi_list_int, ↓r_isi_list_str, ↓r_isi_list_list, ↓r_isi_list_tuple, ↓r_isi_tuple_bool, ↓r_isi_tuple_int, ↓r_isi_tuple_str, ↓r_isi_tuple_list, ↓r_isi_tuple_tuple, ↓r_isBl_none, ↓r_isBl_bool_true, ↓r_isBl_bool_false, ↓r_isBl_int, ↓r_isBl_str, ↓r_isBl_list, ↓r_isBl_tuple, ↓r_notBl_none, ↓r_notBl_bool_true, ↓r_notBl_bool_false, ↓r_notBl_int, ↓r_notBl_str, ↓r_notBl_list, ↓r_notBl_tuple, ↓r_ixL, ↓r_ixT, ↓r_ixS, ↓r_md_o, ↓r_md_b, ↓r_scK_none, ↓r_scK_bool, ↓r_scK_int, ↓r_scK_str, ↓r_scK_list, ↓r_scK_tuple, ↓r_at0, ↓r_atl0, ↓r_atb0, ↓r_atT0, ↓r_atTb0, ↓r_atT1, ↓r_atTb1, ↓r_atT2, ↓r_atTb2, ↓r_atT3, ↓r_atT4, ↓r_sl, ↓r_slK, ↓r_on, ↓r_os, ↓r_osK, ↓r_aSlL, ↓r_aSlLb, ↓r_aSlT, ↓r_aSlS, ↓r_revL, ↓r_revK, ↓r_revKb, ↓r_ln, ↓r_lc, ↓r_lcK, ↓r_lst, ↓r_tup, ↓r_eOk0, ↓r_okK0, ↓r_set, ↓r_setO, ↓r_setN, ↓r_setb_none, ↓r_setb_bool, ↓r_setb_int, ↓r_setb_str, ↓r_fzK, ↓r_fz0, ↓r_fz00, ↓r_fzd, ↓r_fzS, ↓r_drop, ↓r_aug, ↓r_aug0, ↓r_augS, ↓r_iaddI, ↓r_iaddS, ↓r_app, ↓r_app0, ↓r_appS, ↓r_sat, ↓r_sat0, ↓r_satI, ↓r_satS, ↓r_gat, ↓r_gat0, ↓r_gatS, ↓r_augI, ↓r_an, ↓r_av, ↓r_avO, ↓r_avb_none, ↓r_avb_bool, ↓r_avb_int, ↓r_avb_str, ↓r_avb_list, ↓r_avb_tuple, ↓r_as, ↓r_as0, ↓r_asS, ↓r_ab, ↓r_ab0, ↓r_abS, ↓r_ub0, ↓r_ubV, ↓r_ubB, ↓r_ubX, ↓r_ubY, ↓r_call, ↓r_cl0, ↓r_clV, ↓r_clB, ↓r_clX, ↓r_clY, ↓r_draw, ↓r_lenL, ↓r_lenT, ↓r_lenS, ↓r_int, ↓r_intB, ↓r_listL, ↓r_listLb, ↓r_listT, ↓r_tupL, ↓r_tupLb, ↓r_tupT, ↓r_sum, ↓r_max, ↓r_min, ↓r_any, ↓r_all, ↓r_abs, ↓r_str, ↓r_reprI, ↓r_reprS, ↓r_lenScr, ↓r_lenScr0, ↓r_atScr, ↓r_atScr0, ↓r_atSI, ↓r_chn, ↓r_chn1, ↓r_chn2, ↓r_chn3, ↓br_cLt, ↓br_cLe, ↓br_cGt, ↓br_cGe, ↓r_R1, ↓r_rgK, ↓r_R2, ↓r_rgK2, ↓r_lstR, ↓r_tupR, ↓r_iter, ↓r_itL, ↓r_itLb, ↓r_itT, ↓r_itTb, ↓r_itS, ↓r_rng1, ↓r_rn1K, ↓r_rng2, ↓r_rn2K, ↓r_rngD, ↓r_rnDK, ↓r_enum, ↓r_enK, ↓r_enKb, ↓r_zip, ↓r_zpL, ↓r_zpLb, ↓r_zpLc, ↓r_zpT, ↓r_rev, ↓r_rvL, ↓r_rvLb, ↓r_rvT, ↓r_revR, ↓r_gNm, ↓r_nmO, ↓r_nmb_none, ↓r_nmb_bool, ↓r_nmb_int, ↓r_nmb_str, ↓r_nmb_list, ↓r_nmb_tuple, ↓r_gTp, ↓r_gNl, ↓r_gCsO, ↓r_gCsB, ↓r_asg, ↓r_for, ↓r_forK, ↓r_whl, ↓r_wip0, ↓r_wipS, ↓r_comp, ↓r_compN, ↓r_cmpK, ↓r_itmO, ↓r_itmB, ↓r_eAccS, ↓r_eAccN, ↓r_sortL, ↓r_sortLb, ↓br_iff, ↓r_wM1, ↓r_m1K, ↓r_starts, ↓r_ends, ↓r_find, ↓r_count, ↓r_rstrip, ↓r_lstrip, ↓r_strip, ↓r_ljust, ↓r_rjust, ↓r_join, ↓r_sRep, ↓r_idx, ↓r_idK, ↓r_insert, ↓r_ins0, ↓r_insS, ↓r_insJ, ↓r_pop, ↓r_setPop, ↓r_pop0, ↓r_popS, ↓r_popJ, ↓r_eOkS, ↓r_extend, ↓r_ext0, ↓r_extS, ↓r_exJ, ↓r_exJb, ↓r_aap, ↓r_aa0, ↓r_aaS, ↓r_aaJ, ↓r_s2, ↓r_s20, ↓r_s2S, ↓r_s2J, ↓r_s2J2, ↓r_wM2, ↓r_m2K, ↓r_starts3, ↓r_sumAL, ↓r_sumAT, ↓r_bestL, ↓r_bestT, ↓r_repT, ↓r_intS, ↓r_ali, ↓r_ali0, ↓r_aliS, ↓r_aliJ, ↓r_DD, ↓r_atO, ↓r_ato0, ↓r_atoS, ↓r_atoJ, ↓r_enumA, ↓r_enA2, ↓r_enA2b, ↓r_enA2t, ↓r_enA2tb, ↓r_sixK, ↓r_tidx, ↓r_tiK, ↓r_comp2, ↓r_cmp2K, ↓r_isOo, ↓r_never, ↓r_dnew, ↓r_datI, ↓r_datS, ↓r_dinI, ↓r_dinS, ↓r_dninI, ↓r_dninS, ↓r_dput, ↓r_dput0, ↓r_dputS, ↓r_dputI, ↓r_dputT, ↓r_wPn, ↓r_wPc, ↓r_ppI, ↓r_ppS, ↓r_dsp, ↓r_get2, ↓r_get2K, ↓r_get2I, ↓r_get2S, ↓r_lenD, ↓r_lenDK, ↓r_dcomp, ↓r_dcK, ↓r_rngC, ↓r_rcK, ↓r_tupR3, ↓r_t3K, ↓r_pad3, ↓r_zipM, ↓r_zmL, ↓r_zmLb, ↓r_zmLc, ↓r_zip3, ↓r_z3L, ↓r_zip3, ↓r_z3L, ↓r_gTc, true_and, and_true, decide_true, decide_false, true_or, or_true, or_false, false_or, eq_self, inB, Int.reduceLT, Int.reduceLE, Int.reduceToNat, Int.reduceNeg, Nat.reducePow, Int.reducePow, Int.reduceAdd, Int.reduceSub, Int.reduceMul, Int.reduceEq, Int.reduceMod, Int.reduceDiv, Nat.reduceMul, Nat.reduceSub, Nat.reduceEqDiff, Int.reduceGT, Int.reduceGE, false_and, and_false, imp_false, true_implies, false_implies, implies_true, not_true_eq_false, Bool.not_true, Bool.not_false, not_false_eq_true, List.length_cons, List.length_nil, Nat.zero_add, Nat.reduceAdd, Nat.reduceLeDiff, Nat.reduceLT, PyData.bool.injEq, Bool.true_eq_false, Bool.false_eq_true, reduceCtorEq, Option.some.injEq, List.length_map, List.length_range, List.length_reverse, List.length_append, Int.toNat_natCast, Int.zero_add, Int.mul_one, PyData.int.injEq, z_le0, z_lt0, zc_0, z_le1, z_lt1, zc_1, z_le2, z_lt2, zc_2, z_le3, z_lt3, zc_3, z_le4, z_lt4, zc_4, z_le5, z_lt5, zc_5, z_le6, z_lt6, zc_6, z_le7, z_lt7, zc_7, z_le8, z_lt8, zc_8, z_le9, z_lt9, zc_9, z_le10, z_lt10, zc_10, z_le11, z_lt11, zc_11, z_le12, z_lt12, zc_12, z_le13, z_lt13, zc_13, z_le14, z_lt14, zc_14, z_le15, z_lt15, zc_15, z_le16, z_lt16, zc_16])
theorem exi_map {α : Type} {f : α → PyData} {R : α → Prop} : ∀ {acc : List PyData}, (∀ d ∈ acc, ∃ x, R x ∧ d = f x) → ∃ xs : List α, acc = xs.map f ∧ xs.length = acc.length ∧ ∀ x ∈ xs, R x
  | [], _ => ⟨[], rfl, rfl, fun c h => by cases h⟩
  | d :: r, h => by
    obtain ⟨c, hc, rfl⟩ := h d (List.mem_cons_self ..)
    obtain ⟨S, e1, e2, e3⟩ := exi_map (acc := r) fun x hx => h x (List.mem_cons_of_mem _ hx)
    refine ⟨c :: S, by rw [e1]; rfl, by rw [List.length_cons, e2]; rfl, fun x hx => ?_⟩
    rcases List.mem_cons.mp hx with rfl | hx
    · exact hc
    · exact e3 x hx
theorem lws_lt : ∀ (cs : List Cell) (s : List Nat × Nat), (∀ c ∈ s.1, c < 128) → (∀ c ∈ cs, ∀ x ∈ c.1, x < 128) → ∀ x ∈ (cs.foldl cstep s).1, x < 128
  | [], s, h, _ => h
  | c :: cs, s, h, hc => by
    rw [List.foldl_cons]
    refine lws_lt cs _ (fun x hx => ?_) fun d hd => hc d (List.mem_cons_of_mem _ hd)
    unfold cstep at hx
    dsimp only at hx
    split at hx
    · exact h x hx
    · rcases List.mem_append.mp hx with hx | hx
      · rcases List.mem_append.mp hx with hx | hx
        · exact h x hx
        · exact bl_ok x hx
      · exact hc c (List.mem_cons_self ..) x hx
theorem lws_short {cs : List Cell} {m : Nat} (hm : cs.length ≤ 6) (h : ∀ c ∈ cs, c.1.length ≤ c.2.1 ∧ c.2.1 ≤ 50) : (lws cs).length ≤ 2000 := by
  have h1 := lws_len cs [] 0 (Nat.le_refl _) fun c hc => (h c hc).1
  have h5 : ∀ {cs : List Cell}, (∀ c ∈ cs, c.2.1 ≤ 50) → (cs.map fun c => c.2.1 + 2).sum ≤ 52 * cs.length := by
    intro cs
    induction cs with
    | nil => intro _; simp
    | cons a r ih =>
      intro h
      have := ih fun x hx => h x (List.mem_cons_of_mem _ hx)
      have := h a (List.mem_cons_self ..)
      rw [List.map_cons, List.sum_cons, List.length_cons]
      omega
  have h6 := h5 fun c hc => (h c hc).2
  unfold lws
  omega
theorem sm_lns {n : Nat} {rows : List (List (List Nat))} {m : Nat} {sides : List Nat} (hT : Ta rows m sides) : smOk (n + 2) (.list ((lns rows m sides).map zT)) := by
  refine smOk_l (by rw [szv, List.length_map]; unfold lns; rw [List.length_map]; have := hT.2.2.1; omega) fun e he => ?_
  obtain ⟨l, hl, rfl⟩ := List.mem_map.mp he
  obtain ⟨row, hr, rfl⟩ := List.mem_map.mp hl
  obtain ⟨c1, c2⟩ := ta_cells hT hr
  have h6 := hT.2.1
  refine tx_ok (lws_lt _ _ (fun c h => by cases h) fun c hc => (c2 c hc).2.2.2) ?_
  have := lws_short (m := m) (cs := zc row (rms rows m) sides) (by omega) fun c hc => ⟨(c2 c hc).1.1, (c2 c hc).2.1⟩
  omega
theorem shp_w {n : Nat} {row : List (List Nat)} (h : ∀ z ∈ row, ∀ c ∈ z, c < 128) : Shp (n + 2) (wD row) := Shp.list fun d hd => by
  obtain ⟨z, hz, rfl⟩ := List.mem_map.mp hd
  exact Shp.str (okS_strOk fun y hy => h z hz y hy)
theorem ok_hand {rows : List (List (List Nat))} {m : Nat} {sides : List Nat} (hT : Ta rows m sides) : dEqOk (.list [wsD rows, sdD sides]) (.list [wsD rows, sdD sides]) = true ∧ dEq (.list [wsD rows, sdD sides]) (.list [wsD rows, sdD sides]) = true := by
  have hsh : Shp 5 (.list [wsD rows, sdD sides]) := Shp.list (n := 4) fun d hd => by
    simp only [List.mem_cons, List.not_mem_nil, or_false] at hd
    rcases hd with rfl | rfl
    · exact Shp.list (n := 3) fun d hd => by
        obtain ⟨row, hr, rfl⟩ := List.mem_map.mp hd
        exact shp_w (n := 1) fun z hz => ((hT.2.2.2.2.2 row hr).2 z hz).2.2
    · exact Shp.list (n := 3) fun d hd => by
        obtain ⟨s, hs, rfl⟩ := List.mem_map.mp hd
        have := hT.2.2.2.2.1 s hs
        rcases (show s = 0 ∨ s = 1 ∨ s = 2 by omega) with rfl | rfl | rfl <;> exact Shp.str (okS_strOk (fun y hy => by revert y; decide))
  refine ⟨dEqOk_of (hsh.mono (by decide)) (hsh.mono (by decide)), dEq_self ?_⟩
  refine nbdAll_iff.mpr fun d hd => ?_
  simp only [List.mem_cons, List.not_mem_nil, or_false] at hd
  rcases hd with rfl | rfl
  · refine nbdAll_iff.mpr fun d hd => ?_
    obtain ⟨row, hr, rfl⟩ := List.mem_map.mp hd
    refine nbdAll_iff.mpr fun d hd => ?_
    obtain ⟨z, hz, rfl⟩ := List.mem_map.mp hd
    rfl
  · refine nbdAll_iff.mpr fun d hd => ?_
    obtain ⟨z, hz, rfl⟩ := List.mem_map.mp hd
    rfl
theorem NB_of {z : List Nat} (h : ∀ c ∈ z, c ≠ 32) : NB z := fun a c e => h c (by rw [e]; simp)
abbrev frR (S : List Nat) : List (List (List Nat)) := [[[97], [98], [99]], [S, S, S], [[], [], []], [[], [100], []]]
theorem fr_ok {S : List Nat} (h1 : S.length = 5) (h2 : ∀ c ∈ S, c < 128 ∧ c ≠ 32) {sides : List Nat} (hl : sides.length = 3) (hs : ∀ s ∈ sides, s < 3) : Ta (frR S) 3 sides := by
  refine ⟨by decide, by decide, (show (4 : Nat) ≤ 10 by decide), hl, hs, fun row hr => ?_⟩
  have key : ∀ z : List Nat, z.length ≤ 50 → (∀ c ∈ z, c < 128 ∧ c ≠ 32) → z.length ≤ 50 ∧ NB z ∧ ∀ c ∈ z, c < 128 := fun z h1 h2 => ⟨h1, NB_of fun c hc => (h2 c hc).2, fun c hc => (h2 c hc).1⟩
  simp only [List.mem_cons, List.not_mem_nil, or_false] at hr
  rcases hr with rfl | rfl | rfl | rfl <;> refine ⟨rfl, fun z hz => ?_⟩ <;> simp only [List.mem_cons, List.not_mem_nil, or_false] at hz
  · rcases hz with rfl | rfl | rfl <;> exact key _ (by decide) (by decide)
  · rcases hz with rfl | rfl | rfl <;> exact key _ (by omega) h2
  · rcases hz with rfl | rfl | rfl <;> exact key _ (by decide) (by decide)
  · rcases hz with rfl | rfl | rfl <;> exact key _ (by decide) (by decide)
theorem fr_1 {S : List Nat} (h1 : S.length = 5) : lns (frR S) 3 [0, 0, 0] = [[97] ++ bl 6 ++ [98] ++ bl 6 ++ [99], S ++ [32, 32] ++ S ++ [32, 32] ++ S, [], bl 7 ++ [100]] := by
  match S, h1 with
  | [a, b, c, d, e], _ => rfl
theorem fr_2 {S : List Nat} (h1 : S.length = 5) : lns (frR S) 3 [0, 2, 1] = [[97] ++ bl 8 ++ [98] ++ bl 8 ++ [99], S ++ [32, 32] ++ S ++ [32, 32] ++ S, [], bl 9 ++ [100]] := by
  match S, h1 with
  | [a, b, c, d, e], _ => kernel_rfl
theorem h_law : w_law aspDraw aspPick S__law_words S__law_lines S_text_table (aspSame 4) S__law_put { nx := fun _ => False, rt := fun d _ => d = .bool true } (pad N_law.length [.dead, .box]) := by
  show w_law _ _ _ _ _ _ _ _ [.dead, .box, .dead, .dead, .dead, .dead, .dead, .dead, .dead, .dead, .dead, .dead, .dead, .dead, .dead, .dead]
  unfold w_law
  walk_at "al"
  refine for_r1 (fun i st => ∃ (x_turn x_many x_sides x_rows x_due x_again x_handed x_now x_side x_word x_three x_k x_j x_row : SV), st = [.dead, .box, x_turn, x_many, x_sides, x_rows, x_due, x_again, x_handed, x_now, x_side, x_word, x_three, x_k, x_j, x_row]) ⟨_, _, _, _, _, _, _, _, _, _, _, _, _, _, rfl⟩ ?_ ?_
  · rintro i st hi ⟨x_turn, x_many, x_sides, x_rows, x_due, x_again, x_handed, x_now, x_side, x_word, x_three, x_k, x_j, x_row, rfl⟩
    (first | walk_at "al" | skip)
    intro a a0 a1
    obtain ⟨m, hm⟩ : ∃ m : Nat, 1 + a = (m : Int) := ⟨(1 + a).toNat, by omega⟩
    rw [hm]
    have hm1 : 1 ≤ m := by omega
    have hm4 : m ≤ 4 := by omega
    clear hm a0 a1
    (first | walk_at "al" | skip)
    refine ⟨by omega, ?_⟩
    refine cmp_each (fun d => ∃ s : Nat, s < 3 ∧ d = .str (sdS s)) (by rw [szv, rg_len]; omega) (fun d hd K N hK => ?_) fun acc hacc1 hacc2 => ?_
    · (first | walk_at "al" | skip)
      simp only [r_pickL]
      refine ⟨by simp, by simp, fun d hd => ?_⟩
      obtain ⟨s, hs, rfl⟩ : ∃ s : Nat, s < 3 ∧ d = .str (sdS s) := by
        simp only [List.mem_cons, List.not_mem_nil, or_false] at hd
        rcases hd with rfl | rfl | rfl
        · exact ⟨0, by decide, rfl⟩
        · exact ⟨1, by decide, rfl⟩
        · exact ⟨2, by decide, rfl⟩
      exact ⟨rfl, hK _ ⟨s, hs, rfl⟩⟩
    rw [rg_len] at hacc1
    obtain ⟨sides, rfl, hs1, hs2⟩ := exi_map (f := fun s : Nat => PyData.str (sdS s)) hacc2
    rw [hacc1] at hs1
    clear hacc1 hacc2
    (first | walk_at "al" | skip)
    intro b b0 b1
    refine ⟨by omega, ?_⟩
    refine cmp_each (fun d => ∃ row : List (List Nat), (row.length = m ∧ ∀ z ∈ row, Wo z) ∧ d = wD row) (by rw [szv, rg_len]; omega) (fun d hd K N hK => ?_) fun acc hacc1 hacc2 => ?_
    · (first | walk_at "al" | skip)
      refine ⟨by omega, ?_⟩
      refine cmp_each (fun d => ∃ z : List Nat, Wo z ∧ d = zT z) (by rw [szv, rg_len]; omega) (fun d hd K N hK => ?_) fun acc hacc1 hacc2 => ?_
      · (first | walk_at "al" | skip)
        simp only [r__law_words]
        exact ⟨trivial, fun z hz => ⟨rfl, hK _ ⟨z, hz, rfl⟩⟩⟩
      rw [rg_len] at hacc1
      obtain ⟨row, rfl, hr1, hr2⟩ := exi_map (f := zT) hacc2
      (first | walk_at "al" | skip)
      exact hK _ ⟨row, ⟨by omega, hr2⟩, rfl⟩
    rw [rg_len] at hacc1
    obtain ⟨rows, rfl, hr1, hr2⟩ := exi_map (f := wD) hacc2
    rw [hacc1] at hr1
    have hT : Ta rows m sides := ⟨hm1, by omega, by omega, hs1, hs2, hr2⟩
    clear hacc1 hacc2
    (first | walk_at "al" | skip)
    simp only [r__law_lines]
    refine ⟨rows, m, sides, rfl, hT, ?_⟩
    (first | walk_at "al" | skip)
    refine for_r1 (fun j st => ∃ (x_turn x_again x_handed x_now x_side x_word x_three x_k x_j x_row : SV), st = [.dead, .box, x_turn, .val (.int ((m : Nat))) (.o 0), .val ((sdD sides)) (.o 0), .val ((wsD rows)) (.o 0), .val ((.list ((lns rows m sides).map zT))) (.o 0), x_again, x_handed, x_now, x_side, x_word, x_three, x_k, x_j, x_row]) ⟨_, _, _, _, _, _, _, _, _, _, rfl⟩ ?_ ?_
    · rintro j st hj ⟨x_turn, x_again, x_handed, x_now, x_side, x_word, x_three, x_k, x_j, x_row, rfl⟩
      (first | walk_at "al" | skip)
      refine cmp_map (f0 := wD) wD (by rw [szv]; omega) (fun row hrow => ?_) ?_
      · (first | walk_at "al" | skip)
      (first | walk_at "al" | skip)
      refine at_0 (d := sdD sides) rfl ?_
      (first | walk_at "al" | skip)
      simp only [r_text_table]
      refine ⟨rows, m, sides, rfl, hT, ?_⟩
      (first | walk_at "al" | skip)
      simp only [r_same]
      refine ⟨(by first | exact trivial | rfl), sm_lns hT, ?_⟩
      (first | walk_at "al" | skip)
      refine ⟨(ok_hand hT).1, ?_⟩
      rw [(ok_hand hT).2]
      exact ⟨by rw [szv]; unfold lns; rw [List.length_map]; omega, ⟨_, _, _, _, _, _, _, _, _, _, rfl⟩⟩
    · rintro st ⟨x_turn, x_again, x_handed, x_now, x_side, x_word, x_three, x_k, x_j, x_row, rfl⟩
      (first | walk_at "al" | skip)
      simp only [r_pickL]
      have hsn : sides ≠ [] := fun e => by rw [e] at hs1; simp at hs1; omega
      refine ⟨fun e => hsn (List.map_eq_nil_iff.mp e), by rw [List.length_map]; omega, fun d hd => ?_⟩
      obtain ⟨s, hs, rfl⟩ := List.mem_map.mp hd
      (first | walk_at "al" | skip)
      simp only [r__law_put]
      refine ⟨s, rfl, hs2 s hs, ?_⟩
      exact ⟨_, _, _, _, _, _, _, _, _, _, _, _, _, _, rfl⟩
  · rintro st ⟨x_turn, x_many, x_sides, x_rows, x_due, x_again, x_handed, x_now, x_side, x_word, x_three, x_k, x_j, x_row, rfl⟩
    (first | walk_at "al" | skip)
    refine for_map (xs := [0, 1, 2]) (f := fun s : Nat => PyData.str (sdS s)) (fun i st => ∃ (x_turn x_many x_sides x_rows x_due x_again x_handed x_now x_side x_word x_three x_k x_j x_row : SV), st = [.dead, .box, x_turn, x_many, x_sides, x_rows, x_due, x_again, x_handed, x_now, x_side, x_word, x_three, x_k, x_j, x_row]) ⟨_, _, _, _, _, _, _, _, _, _, _, _, _, _, rfl⟩ ?_ ?_
    · rintro i s st hi ⟨x_turn, x_many, x_sides, x_rows, x_due, x_again, x_handed, x_now, x_side, x_word, x_three, x_k, x_j, x_row, rfl⟩
      have hs : s < 3 := by
        have := List.mem_of_getElem? hi
        simp only [List.mem_cons, List.not_mem_nil, or_false] at this
        omega
      (first | walk_at "al" | skip)
      simp only [r__law_put]
      refine ⟨s, rfl, hs, ?_⟩
      exact ⟨_, _, _, _, _, _, _, _, _, _, _, _, _, _, rfl⟩
    rintro st ⟨x_turn, x_many, x_sides, x_rows, x_due, x_again, x_handed, x_now, x_side, x_word, x_three, x_k, x_j, x_row, rfl⟩
    (first | walk_at "al" | skip)
    refine cmp_each (fun d => ∃ c : Nat, (c < 128 ∧ c ≠ 32) ∧ d = .str ⟨#[c]⟩) (by rw [rg_len, szv]; decide) (fun d hd K N hK => ?_) fun acc hacc1 hacc2 => ?_
    · (first | walk_at "al" | skip)
      simp only [r_pickS]
      refine ⟨by decide, by decide, fun c hc => ?_⟩
      have hc128 : c < 128 ∧ c ≠ 32 := (show ∀ c ∈ ("abcdefghijklmnopqrstuvwxyz" : Str).cps.toList, c < 128 ∧ c ≠ 32 by decide) c hc
      exact ⟨rfl, hK _ ⟨c, hc128, rfl⟩⟩
    rw [rg_len] at hacc1
    obtain ⟨S, rfl, hS1, hS2⟩ := exi_map (f := fun c : Nat => PyData.str ⟨#[c]⟩) hacc2
    rw [hacc1] at hS1
    clear hacc1 hacc2
    refine join_s (S.map fun c => (⟨#[c]⟩ : Str)) (by rw [List.map_map]; rfl) (by rw [sg_sum, show ("" : Str).length = 0 by decide, hS1]; simp) ?_
    rw [sg_join]
    have hfT := @fr_ok S hS1 hS2
    (first | walk_at "al" | skip)
    have e6 : Txt.mul " " 6 = tx (bl 6) := mul_bl 6
    have e7 : Txt.mul " " 7 = tx (bl 7) := mul_bl 7
    have e8 : Txt.mul " " 8 = tx (bl 8) := mul_bl 8
    have e9 : Txt.mul " " 9 = tx (bl 9) := mul_bl 9
    have ea : ("a" : Str) = tx [97] := str_ext (by decide)
    have eb : ("b" : Str) = tx [98] := str_ext (by decide)
    have ec : ("c" : Str) = tx [99] := str_ext (by decide)
    have ed : ("d" : Str) = tx [100] := str_ext (by decide)
    have ee : ("" : Str) = tx [] := str_ext (by decide)
    have e2 : ("  " : Str) = tx [32, 32] := str_ext (by decide)
    have el : ("left" : Str) = sdS 0 := rfl
    have em : ("middle" : Str) = sdS 2 := rfl
    have er : ("right" : Str) = sdS 1 := rfl
    rw [e6, e7, ea, eb, ec, ed, ee, e2]
    simp only [tx_cat]
    refine ⟨by simp only [tx_len, bl_len, List.length_append, hS1, List.length_cons, List.length_nil, szv]; omega, by simp only [tx_len, bl_len, List.length_append, hS1, List.length_cons, List.length_nil, szv]; omega, by simp only [tx_len, bl_len, List.length_append, hS1, List.length_cons, List.length_nil, szv]; omega, by simp only [tx_len, bl_len, List.length_append, hS1, List.length_cons, List.length_nil, szv]; omega, mul_ok (by decide) (by decide), by simp only [tx_len, bl_len, List.length_append, hS1, List.length_cons, List.length_nil, szv]; omega, by simp only [tx_len, bl_len, List.length_append, hS1, List.length_cons, List.length_nil, szv]; omega, mul_ok (by decide) (by decide), by simp only [tx_len, bl_len, List.length_append, hS1, List.length_cons, List.length_nil, szv]; omega, by simp only [tx_len, bl_len, List.length_append, hS1, List.length_cons, List.length_nil, szv]; omega, mul_ok (by decide) (by decide), by simp only [tx_len, bl_len, List.length_append, hS1, List.length_cons, List.length_nil, szv]; omega, ?_⟩
    refine cmp_map (f0 := wD) (xs := frR S) wD (by rw [szv]; exact (show (4 : Nat) ≤ 16777216 by decide)) (fun row hrow => ?_) ?_
    · (first | walk_at "al" | skip)
    (first | walk_at "al" | skip)
    simp only [r_text_table]
    refine ⟨frR S, 3, [0, 0, 0], rfl, hfT (by decide) (by decide), ?_⟩
    (first | walk_at "al" | skip)
    rw [fr_1 hS1]
    have sm1 := sm_lns (n := 2) (hfT (sides := [0, 0, 0]) (by decide) (by decide))
    rw [fr_1 hS1] at sm1
    simp only [tx_cat]
    simp only [r_same]
    refine ⟨(by first | exact trivial | rfl), sm1, ?_⟩
    (first | walk_at "al" | skip)
    rw [e8, e9]
    simp only [tx_cat]
    refine ⟨mul_ok (by decide) (by decide), by simp only [tx_len, bl_len, List.length_append, hS1, List.length_cons, List.length_nil, szv]; omega, by simp only [tx_len, bl_len, List.length_append, hS1, List.length_cons, List.length_nil, szv]; omega, mul_ok (by decide) (by decide), by simp only [tx_len, bl_len, List.length_append, hS1, List.length_cons, List.length_nil, szv]; omega, by simp only [tx_len, bl_len, List.length_append, hS1, List.length_cons, List.length_nil, szv]; omega, mul_ok (by decide) (by decide), by simp only [tx_len, bl_len, List.length_append, hS1, List.length_cons, List.length_nil, szv]; omega, ?_⟩
    refine cmp_map (f0 := wD) (xs := frR S) wD (by rw [szv]; exact (show (4 : Nat) ≤ 16777216 by decide)) (fun row hrow => ?_) ?_
    · (first | walk_at "al" | skip)
    (first | walk_at "al" | skip)
    simp only [r_text_table]
    refine ⟨frR S, 3, [0, 2, 1], rfl, hfT (by decide) (by decide), ?_⟩
    (first | walk_at "al" | skip)
    rw [fr_2 hS1]
    have sm2 := sm_lns (n := 2) (hfT (sides := [0, 2, 1]) (by decide) (by decide))
    rw [fr_2 hS1] at sm2
    simp only [tx_cat]
    simp only [r_same]
    refine ⟨(by first | exact trivial | rfl), sm2, ?_⟩
    (first | walk_at "al" | skip)
end LW

namespace LW
open PySem PySem.Spec PyProof.Rows L2 AL
section
variable {P : Program} {w : World} {K : PySem.W.Frag} {mg : Str → Option Value} {base : Heap}
theorem law_all {f : Addr} {fd : FuncData} (F : Fun K "law" "law" s_law f fd) (F_text_table : Df K mg "text_table" "text_table" s_text_table ["rows", "sides"]) (F_put_text : Df K mg "put_text" "put_text" s_put_text ["text", "room", "side"]) (F__law_cell : Df K mg "_law_cell" "_law_cell" s__law_cell ["script", "k"]) (F__law_digits : Df K mg "_law_digits" "_law_digits" s__law_digits ["script", "first", "last"]) (F__law_draw : Df K mg "_law_draw" "_law_draw" s__law_draw ["box", "many"]) (F__law_pick : Df K mg "_law_pick" "_law_pick" s__law_pick ["box", "row"]) (F__law_same : Df K mg "_law_same" "_law_same" s__law_same ["told", "due"]) (F__law_words : Df K mg "_law_words" "_law_words" s__law_words ["box"]) (F__law_start : Df K mg "_law_start" "_law_start" s__law_start ["whole", "room", "side"]) (F__law_lines : Df K mg "_law_lines" "_law_lines" s__law_lines ["rows", "sides"]) (F__law_put : Df K mg "_law_put" "_law_put" s__law_put ["box", "side"]) (m_len : mg "len" = none) (m_range : mg "range" = none) (m_max : mg "max" = none) (m_zip : mg "zip" = none) (m_int : mg "int" = none) (m_str : mg "str" = none) (m_isinstance : mg "isinstance" = none) (m_repr : mg "repr" = none) (m_bool : mg "bool" = none) (m_tuple : mg "tuple" = none) (m_list : mg "list" = none)  : FnOk P w K mg base CX0 6 f fd ["script"] (spLaw K) := by
  have D_put_text : Dn P w K mg base 1 "put_text" 3 S_put_text := F_put_text.dn (k := 0) sc_put_text (by decide) (fun f cdv A outer s H E hr => tr_put_text (k := 0) m_len cdv A outer s H E hr) h_put_text
  have D_text_table : Dn P w K mg base 2 "text_table" 2 S_text_table := F_text_table.dn (k := 1) sc_text_table (by decide) (fun f cdv A outer s H E hr => tr_text_table (k := 1) (D_put_text.up (by decide)) m_len m_range m_max m_zip cdv A outer s H E hr) h_text_table
  have D__law_cell : Dn P w K mg base 1 "_law_cell" 2 aspCell := F__law_cell.dn (k := 0) sc__law_cell (by decide) (fun f cdv A outer s H E hr => tr__law_cell (k := 0) m_len cdv A outer s H E hr) h_cell
  have D__law_digits : Dn P w K mg base 2 "_law_digits" 3 aspDigits := F__law_digits.dn (k := 1) sc__law_digits (by decide) (fun f cdv A outer s H E hr => tr__law_digits (k := 1) (D__law_cell.up (by decide)) m_range m_int cdv A outer s H E hr) h_digits
  have D__law_draw : Dn P w K mg base 1 "_law_draw" 2 aspDraw := by
    obtain ⟨f2, fd2, hF, hm, hB⟩ := F__law_draw.ex
    exact ⟨f2, fd2, _, h_draw hF m_int m_len, hm, hF.kp, hB⟩
  have D__law_pick : Dn P w K mg base 2 "_law_pick" 2 aspPick := F__law_pick.dn (k := 1) sc__law_pick (by decide) (fun f cdv A outer s H E hr => tr__law_pick (k := 1) (D__law_draw.up (by decide)) m_int m_len cdv A outer s H E hr) h_pick
  have D__law_same_0 : Dn P w K mg base 0 "_law_same" 2 (aspSame 0) := F__law_same.never.weak (fun as Q h => aspSame_0 as Q h)
  have D__law_same_1 : Dn P w K mg base 1 "_law_same" 2 (aspSame 1) := F__law_same.dn (k := 0) sc__law_same (by decide) (fun f cdv A outer s H E hr => tr__law_same (k := 0) (D__law_same_0.up (by decide)) m_str m_isinstance m_repr m_int m_bool m_tuple m_list m_len m_range cdv A outer s H E hr) (h_same 0)
  have D__law_same_2 : Dn P w K mg base 2 "_law_same" 2 (aspSame 2) := F__law_same.dn (k := 1) sc__law_same (by decide) (fun f cdv A outer s H E hr => tr__law_same (k := 1) (D__law_same_1.up (by decide)) m_str m_isinstance m_repr m_int m_bool m_tuple m_list m_len m_range cdv A outer s H E hr) (h_same 1)
  have D__law_same_3 : Dn P w K mg base 3 "_law_same" 2 (aspSame 3) := F__law_same.dn (k := 2) sc__law_same (by decide) (fun f cdv A outer s H E hr => tr__law_same (k := 2) (D__law_same_2.up (by decide)) m_str m_isinstance m_repr m_int m_bool m_tuple m_list m_len m_range cdv A outer s H E hr) (h_same 2)
  have D__law_same_4 : Dn P w K mg base 4 "_law_same" 2 (aspSame 4) := F__law_same.dn (k := 3) sc__law_same (by decide) (fun f cdv A outer s H E hr => tr__law_same (k := 3) (D__law_same_3.up (by decide)) m_str m_isinstance m_repr m_int m_bool m_tuple m_list m_len m_range cdv A outer s H E hr) (h_same 3)
  have D__law_same := D__law_same_4
  have D__law_words : Dn P w K mg base 3 "_law_words" 1 S__law_words := F__law_words.dn (k := 2) sc__law_words (by decide) (fun f cdv A outer s H E hr => tr__law_words (k := 2) (D__law_draw.up (by decide)) (D__law_pick.up (by decide)) m_range cdv A outer s H E hr) h__law_words
  have D__law_start : Dn P w K mg base 1 "_law_start" 3 S__law_start := F__law_start.dn (k := 0) sc__law_start (by decide) (fun f cdv A outer s H E hr => tr__law_start (k := 0) m_len cdv A outer s H E hr) h__law_start
  have D__law_lines : Dn P w K mg base 2 "_law_lines" 2 S__law_lines := F__law_lines.dn (k := 1) sc__law_lines (by decide) (fun f cdv A outer s H E hr => tr__law_lines (k := 1) (D__law_start.up (by decide)) m_range m_len m_max cdv A outer s H E hr) h__law_lines
  have D__law_put : Dn P w K mg base 5 "_law_put" 2 S__law_put := F__law_put.dn (k := 4) sc__law_put (by decide) (fun f cdv A outer s H E hr => tr__law_put (k := 4) (D__law_words.up (by decide)) (D__law_draw.up (by decide)) (D__law_pick.up (by decide)) (D__law_start.up (by decide)) (D_put_text.up (by decide)) (D__law_same.up (by decide)) m_len m_range cdv A outer s H E hr) h__law_put
  obtain ⟨f2, fd2, hF2, hm2, hB2⟩ := F__law_digits.ex
  refine law_ok (x3 := 0) (k := 5) F sc_law rfl (rest := (defBody s_law).tail) rfl ((fn_ok hF2 sc__law_digits (by decide) fun cdv A outer s H E hr => ⟨_, tr__law_digits (k := 1) (D__law_cell.up (by decide)) m_range m_int cdv A outer s H E hr, h_digits⟩ : FnOk P w K mg base CX0 2 f2 fd2 _ (spOf K 3 aspDigits)).mono (by decide)) hm2 hF2.kp hB2 (by decide) (by first | exact Or.inl rfl | exact Or.inr rfl) (by first | exact Or.inl rfl | exact Or.inr rfl) rfl fun cdv A outer s H E hr => ⟨rfl, _, tr_law (k := 5) (D__law_draw.up (by decide)) (D__law_pick.up (by decide)) (D__law_words.up (by decide)) (D__law_lines.up (by decide)) (D_text_table.up (by decide)) (D__law_same.up (by decide)) (D__law_put.up (by decide)) m_range m_list cdv A outer s H E hr, h_law⟩
end
theorem all_mk {l : PySem.W.OpenLaw} {w : World} {K : PySem.W.Frag} {h : Heap} {mg : Str → Option Value} {fa : Addr} (X : K.In h) (G : h.Ns mainGlobals mg) (hfa : mg "law" = some (.ref fa))
    {f0 : Addr} {od0 an0 : Option Addr} {sl0 : Array (Option Value)} {oc0 kV0 dc0 pm0 cd0 ct0 : Value}
    {f1 : Addr} {od1 an1 : Option Addr} {sl1 : Array (Option Value)} {oc1 kV1 dc1 pm1 cd1 ct1 : Value}
    {f2 : Addr} {od2 an2 : Option Addr} {sl2 : Array (Option Value)} {oc2 kV2 dc2 pm2 cd2 ct2 : Value}
    {f3 : Addr} {od3 an3 : Option Addr} {sl3 : Array (Option Value)} {oc3 kV3 dc3 pm3 cd3 ct3 : Value}
    {f4 : Addr} {od4 an4 : Option Addr} {sl4 : Array (Option Value)} {oc4 kV4 dc4 pm4 cd4 ct4 : Value}
    {f5 : Addr} {od5 an5 : Option Addr} {sl5 : Array (Option Value)} {oc5 kV5 dc5 pm5 cd5 ct5 : Value}
    {f6 : Addr} {od6 an6 : Option Addr} {sl6 : Array (Option Value)} {oc6 kV6 dc6 pm6 cd6 ct6 : Value}
    {f7 : Addr} {od7 an7 : Option Addr} {sl7 : Array (Option Value)} {oc7 kV7 dc7 pm7 cd7 ct7 : Value}
    {f8 : Addr} {od8 an8 : Option Addr} {sl8 : Array (Option Value)} {oc8 kV8 dc8 pm8 cd8 ct8 : Value}
    {f9 : Addr} {od9 an9 : Option Addr} {sl9 : Array (Option Value)} {oc9 kV9 dc9 pm9 cd9 ct9 : Value}
    {f10 : Addr} {od10 an10 : Option Addr} {sl10 : Array (Option Value)} {oc10 kV10 dc10 pm10 cd10 ct10 : Value}
    {f11 : Addr} {od11 an11 : Option Addr} {sl11 : Array (Option Value)} {oc11 kV11 dc11 pm11 cd11 ct11 : Value}
    (a0 : PySem.W.nsIn K mainGlobals "text_table" = some (some (.ref f0))) (l0 : K.lookup f0 = some ⟨oc0, od0, .func (PySem.W.fnOf "text_table" "text_table" (defArgs s_text_table) (defBody s_text_table) (defScope s_text_table) .none kV0 dc0 pm0 an0 cd0 ct0), sl0⟩) (c0 : PySem.W.codeIn K cd0 "text_table" = true) (k0 : PySem.W.keepIn K (.ref f0) = true)
    (a1 : PySem.W.nsIn K mainGlobals "put_text" = some (some (.ref f1))) (l1 : K.lookup f1 = some ⟨oc1, od1, .func (PySem.W.fnOf "put_text" "put_text" (defArgs s_put_text) (defBody s_put_text) (defScope s_put_text) .none kV1 dc1 pm1 an1 cd1 ct1), sl1⟩) (c1 : PySem.W.codeIn K cd1 "put_text" = true) (k1 : PySem.W.keepIn K (.ref f1) = true)
    (a2 : PySem.W.nsIn K mainGlobals "_law_cell" = some (some (.ref f2))) (l2 : K.lookup f2 = some ⟨oc2, od2, .func (PySem.W.fnOf "_law_cell" "_law_cell" (defArgs s__law_cell) (defBody s__law_cell) (defScope s__law_cell) .none kV2 dc2 pm2 an2 cd2 ct2), sl2⟩) (c2 : PySem.W.codeIn K cd2 "_law_cell" = true) (k2 : PySem.W.keepIn K (.ref f2) = true)
    (a3 : PySem.W.nsIn K mainGlobals "_law_digits" = some (some (.ref f3))) (l3 : K.lookup f3 = some ⟨oc3, od3, .func (PySem.W.fnOf "_law_digits" "_law_digits" (defArgs s__law_digits) (defBody s__law_digits) (defScope s__law_digits) .none kV3 dc3 pm3 an3 cd3 ct3), sl3⟩) (c3 : PySem.W.codeIn K cd3 "_law_digits" = true) (k3 : PySem.W.keepIn K (.ref f3) = true)
    (a4 : PySem.W.nsIn K mainGlobals "_law_draw" = some (some (.ref f4))) (l4 : K.lookup f4 = some ⟨oc4, od4, .func (PySem.W.fnOf "_law_draw" "_law_draw" (defArgs s__law_draw) (defBody s__law_draw) (defScope s__law_draw) .none kV4 dc4 pm4 an4 cd4 ct4), sl4⟩) (c4 : PySem.W.codeIn K cd4 "_law_draw" = true) (k4 : PySem.W.keepIn K (.ref f4) = true)
    (a5 : PySem.W.nsIn K mainGlobals "_law_pick" = some (some (.ref f5))) (l5 : K.lookup f5 = some ⟨oc5, od5, .func (PySem.W.fnOf "_law_pick" "_law_pick" (defArgs s__law_pick) (defBody s__law_pick) (defScope s__law_pick) .none kV5 dc5 pm5 an5 cd5 ct5), sl5⟩) (c5 : PySem.W.codeIn K cd5 "_law_pick" = true) (k5 : PySem.W.keepIn K (.ref f5) = true)
    (a6 : PySem.W.nsIn K mainGlobals "_law_same" = some (some (.ref f6))) (l6 : K.lookup f6 = some ⟨oc6, od6, .func (PySem.W.fnOf "_law_same" "_law_same" (defArgs s__law_same) (defBody s__law_same) (defScope s__law_same) .none kV6 dc6 pm6 an6 cd6 ct6), sl6⟩) (c6 : PySem.W.codeIn K cd6 "_law_same" = true) (k6 : PySem.W.keepIn K (.ref f6) = true)
    (a7 : PySem.W.nsIn K mainGlobals "_law_words" = some (some (.ref f7))) (l7 : K.lookup f7 = some ⟨oc7, od7, .func (PySem.W.fnOf "_law_words" "_law_words" (defArgs s__law_words) (defBody s__law_words) (defScope s__law_words) .none kV7 dc7 pm7 an7 cd7 ct7), sl7⟩) (c7 : PySem.W.codeIn K cd7 "_law_words" = true) (k7 : PySem.W.keepIn K (.ref f7) = true)
    (a8 : PySem.W.nsIn K mainGlobals "_law_start" = some (some (.ref f8))) (l8 : K.lookup f8 = some ⟨oc8, od8, .func (PySem.W.fnOf "_law_start" "_law_start" (defArgs s__law_start) (defBody s__law_start) (defScope s__law_start) .none kV8 dc8 pm8 an8 cd8 ct8), sl8⟩) (c8 : PySem.W.codeIn K cd8 "_law_start" = true) (k8 : PySem.W.keepIn K (.ref f8) = true)
    (a9 : PySem.W.nsIn K mainGlobals "_law_lines" = some (some (.ref f9))) (l9 : K.lookup f9 = some ⟨oc9, od9, .func (PySem.W.fnOf "_law_lines" "_law_lines" (defArgs s__law_lines) (defBody s__law_lines) (defScope s__law_lines) .none kV9 dc9 pm9 an9 cd9 ct9), sl9⟩) (c9 : PySem.W.codeIn K cd9 "_law_lines" = true) (k9 : PySem.W.keepIn K (.ref f9) = true)
    (a10 : PySem.W.nsIn K mainGlobals "_law_put" = some (some (.ref f10))) (l10 : K.lookup f10 = some ⟨oc10, od10, .func (PySem.W.fnOf "_law_put" "_law_put" (defArgs s__law_put) (defBody s__law_put) (defScope s__law_put) .none kV10 dc10 pm10 an10 cd10 ct10), sl10⟩) (c10 : PySem.W.codeIn K cd10 "_law_put" = true) (k10 : PySem.W.keepIn K (.ref f10) = true)
    (a11 : PySem.W.nsIn K mainGlobals "law" = some (some (.ref f11))) (l11 : K.lookup f11 = some ⟨oc11, od11, .func (PySem.W.fnOf "law" "law" (defArgs s_law) (defBody s_law) (defScope s_law) .none kV11 dc11 pm11 an11 cd11 ct11), sl11⟩) (c11 : PySem.W.codeIn K cd11 "law" = true) (k11 : PySem.W.keepIn K (.ref f11) = true)
    (z_len : PySem.W.nsIn K mainGlobals "len" = some none)
    (z_range : PySem.W.nsIn K mainGlobals "range" = some none)
    (z_max : PySem.W.nsIn K mainGlobals "max" = some none)
    (z_zip : PySem.W.nsIn K mainGlobals "zip" = some none)
    (z_int : PySem.W.nsIn K mainGlobals "int" = some none)
    (z_str : PySem.W.nsIn K mainGlobals "str" = some none)
    (z_isinstance : PySem.W.nsIn K mainGlobals "isinstance" = some none)
    (z_repr : PySem.W.nsIn K mainGlobals "repr" = some none)
    (z_bool : PySem.W.nsIn K mainGlobals "bool" = some none)
    (z_tuple : PySem.W.nsIn K mainGlobals "tuple" = some none)
    (z_list : PySem.W.nsIn K mainGlobals "list" = some none)
    : ∃ fd : FuncData, (∀ (s : Shared) (v : Value), BindsTo s fd ⟨[v], []⟩ [("script", v)]) ∧ ∀ base : Heap, K.In base → base.Ns mainGlobals mg → FnOk l.prog w K mg base CX0 6 fa fd ["script"] (spLaw K) := by
  have e := hfa.symm.trans (PySem.W.mg_of X G a11)
  cases e
  have F0 := fun_mk (st := s_text_table) l0 c0 k0
  have F1 := fun_mk (st := s_put_text) l1 c1 k1
  have F2 := fun_mk (st := s__law_cell) l2 c2 k2
  have F3 := fun_mk (st := s__law_digits) l3 c3 k3
  have F4 := fun_mk (st := s__law_draw) l4 c4 k4
  have F5 := fun_mk (st := s__law_pick) l5 c5 k5
  have F6 := fun_mk (st := s__law_same) l6 c6 k6
  have F7 := fun_mk (st := s__law_words) l7 c7 k7
  have F8 := fun_mk (st := s__law_start) l8 c8 k8
  have F9 := fun_mk (st := s__law_lines) l9 c9 k9
  have F10 := fun_mk (st := s__law_put) l10 c10 k10
  have F11 := fun_mk (st := s_law) l11 c11 k11
  exact ⟨PySem.W.fnOf "law" "law" (defArgs s_law) (defBody s_law) (defScope s_law) .none kV11 dc11 pm11 an11 cd11 ct11, fun s v => .of_eq rfl, fun base _ _ => law_all F11
    ⟨⟨_, _, F0, PySem.W.mg_of X G a0, F0.binds (ps := ["rows", "sides"]) fun _ _ _ _ _ _ us hl => match us, hl with | [_, _], _ => rfl⟩⟩
    ⟨⟨_, _, F1, PySem.W.mg_of X G a1, F1.binds (ps := ["text", "room", "side"]) fun _ _ _ _ _ _ us hl => match us, hl with | [_, _, _], _ => rfl⟩⟩
    ⟨⟨_, _, F2, PySem.W.mg_of X G a2, F2.binds (ps := ["script", "k"]) fun _ _ _ _ _ _ us hl => match us, hl with | [_, _], _ => rfl⟩⟩
    ⟨⟨_, _, F3, PySem.W.mg_of X G a3, F3.binds (ps := ["script", "first", "last"]) fun _ _ _ _ _ _ us hl => match us, hl with | [_, _, _], _ => rfl⟩⟩
    ⟨⟨_, _, F4, PySem.W.mg_of X G a4, F4.binds (ps := ["box", "many"]) fun _ _ _ _ _ _ us hl => match us, hl with | [_, _], _ => rfl⟩⟩
    ⟨⟨_, _, F5, PySem.W.mg_of X G a5, F5.binds (ps := ["box", "row"]) fun _ _ _ _ _ _ us hl => match us, hl with | [_, _], _ => rfl⟩⟩
    ⟨⟨_, _, F6, PySem.W.mg_of X G a6, F6.binds (ps := ["told", "due"]) fun _ _ _ _ _ _ us hl => match us, hl with | [_, _], _ => rfl⟩⟩
    ⟨⟨_, _, F7, PySem.W.mg_of X G a7, F7.binds (ps := ["box"]) fun _ _ _ _ _ _ us hl => match us, hl with | [_], _ => rfl⟩⟩
    ⟨⟨_, _, F8, PySem.W.mg_of X G a8, F8.binds (ps := ["whole", "room", "side"]) fun _ _ _ _ _ _ us hl => match us, hl with | [_, _, _], _ => rfl⟩⟩
    ⟨⟨_, _, F9, PySem.W.mg_of X G a9, F9.binds (ps := ["rows", "sides"]) fun _ _ _ _ _ _ us hl => match us, hl with | [_, _], _ => rfl⟩⟩
    ⟨⟨_, _, F10, PySem.W.mg_of X G a10, F10.binds (ps := ["box", "side"]) fun _ _ _ _ _ _ us hl => match us, hl with | [_, _], _ => rfl⟩⟩
    (PySem.W.mg_none_of X G z_len)
    (PySem.W.mg_none_of X G z_range)
    (PySem.W.mg_none_of X G z_max)
    (PySem.W.mg_none_of X G z_zip)
    (PySem.W.mg_none_of X G z_int)
    (PySem.W.mg_none_of X G z_str)
    (PySem.W.mg_none_of X G z_isinstance)
    (PySem.W.mg_none_of X G z_repr)
    (PySem.W.mg_none_of X G z_bool)
    (PySem.W.mg_none_of X G z_tuple)
    (PySem.W.mg_none_of X G z_list)⟩
end LW
open PySem PySem.W PyProof.Rows
set_option maxHeartbeats 0 in
theorem PySem.Challenge.cw_printlands_k19_whole_tables_of_texts_holds : PySem.Challenge.rw_printlands_k19_whole_tables_of_texts.Holds := by
  w_on; o_law; k_head; (case hw => w_witness2)
  k_fill
  refine L2.walk_of (l := PySem.Challenge.rw_printlands_k19_whole_tables_of_texts) (n := 63) (k := 6) (x := "script") (CX := fun _ => L2.CX0) (sp := fun w => AL.spLaw _) rfl (by decide) rfl ⟨rfl, by decide, by decide⟩ (fun w h Y => PySem.W.kIn_of Y) ?F (fun _ _ a ns hl ho hS => ⟨a, ns, rfl, ho, hS, hl, fun _ => rfl⟩) (fun _ _ _ _ _ h => h)
  case F =>
    intro w mg fa h KX G hmg
    refine' LW.all_mk KX G hmg ?a0 ?l0 ?c0 ?k0 ?a1 ?l1 ?c1 ?k1 ?a2 ?l2 ?c2 ?k2 ?a3 ?l3 ?c3 ?k3 ?a4 ?l4 ?c4 ?k4 ?a5 ?l5 ?c5 ?k5 ?a6 ?l6 ?c6 ?k6 ?a7 ?l7 ?c7 ?k7 ?a8 ?l8 ?c8 ?k8 ?a9 ?l9 ?c9 ?k9 ?a10 ?l10 ?c10 ?k10 ?a11 ?l11 ?c11 ?k11 ?z_len ?z_range ?z_max ?z_zip ?z_int ?z_str ?z_isinstance ?z_repr ?z_bool ?z_tuple ?z_list
    (case a0 => k_is); (case l0 => k_is); (case c0 => k_is); (case k0 => k_is); (case a1 => k_is); (case l1 => k_is); (case c1 => k_is); (case k1 => k_is); (case a2 => k_is); (case l2 => k_is); (case c2 => k_is); (case k2 => k_is); (case a3 => k_is); (case l3 => k_is); (case c3 => k_is); (case k3 => k_is); (case a4 => k_is); (case l4 => k_is); (case c4 => k_is); (case k4 => k_is); (case a5 => k_is); (case l5 => k_is); (case c5 => k_is); (case k5 => k_is); (case a6 => k_is); (case l6 => k_is); (case c6 => k_is); (case k6 => k_is); (case a7 => k_is); (case l7 => k_is); (case c7 => k_is); (case k7 => k_is); (case a8 => k_is); (case l8 => k_is); (case c8 => k_is); (case k8 => k_is); (case a9 => k_is); (case l9 => k_is); (case c9 => k_is); (case k9 => k_is); (case a10 => k_is); (case l10 => k_is); (case c10 => k_is); (case k10 => k_is); (case a11 => k_is); (case l11 => k_is); (case c11 => k_is); (case k11 => k_is); (case z_len => k_is); (case z_range => k_is); (case z_max => k_is); (case z_zip => k_is); (case z_int => k_is); (case z_str => k_is); (case z_isinstance => k_is); (case z_repr => k_is); (case z_bool => k_is); (case z_tuple => k_is); (case z_list => k_is)
