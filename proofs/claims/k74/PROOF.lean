import PyProof.Rows.All
import Wide.All
import OpenK.AllK
import Wide.FinOn
import HandS.ForMost
import HandS.ForExc
import HandS.IsInst
import HandS.Defaults
import HandS.Flow
import HandS.Wide
import HandS.Walk
import HandS.Zip
import HandS.WordsExc
import HandS.List
import HandS.Style
import HandS.HeadEnd
import HandS.Head0
import HandS.Head1
import HandS.Head2
import HandS.HeadHook1
import HandS.HeadHook2
import PySem.Challenge.RW_paidlater_k74_whole_a_number_said
set_option Elab.async false
set_option linter.all false
set_option maxRecDepth 100000
set_option maxHeartbeats 0
namespace Q
open PySem L2

/-- data: what a Python value tells, lists with the mark whether they are nobody else's -/
inductive D where
  | non | bl (b : Bool) | int (i : Int) | str (s : Str)
  | tup (ds : List D) | lst (own : Bool) (ds : List D)
  | dic (own : Bool) (ks : List Key) (ds : List D)
  | frz (ds : List D)

/-- a list that is read only (the script) -/
def FrzOk (K : PySem.W.Frag) (H : Hp) (F : Addr → Prop) (a : Addr) (us : List V) : Prop :=
  (Rd H a (.lst us) ∧ F a) ∨
    ∃ (o : Obj) (its : Array Value) (n : Nat), K.lookup a = some o ∧ o.cls = .type "list" ∧ o.dict = none ∧ o.data = .seq its n ∧ its.size ≤ sizeLine ∧ Vals us its.toList
theorem FrzOk.sq {K : PySem.W.Frag} {H : Hp} {F : Addr → Prop} {a : Addr} {us : List V} (h : FrzOk K H F a us) : SqL K H a us := by
  rcases h with ⟨h, _⟩ | h
  · exact .inl h
  · exact .inr h

/-- data over the heap: F the addresses that stay as they are, W those that are ours alone -/
inductive Reps (K : PySem.W.Frag) (H : Hp) (F : Addr → Prop) : List D → List V → List Addr → Prop
  | nil : Reps K H F [] [] []
  | non {ds vs W} : Reps K H F ds vs W → Reps K H F (.non :: ds) (.non :: vs) W
  | bl {b ds vs W} : Reps K H F ds vs W → Reps K H F (.bl b :: ds) (.bl b :: vs) W
  | int {i ds vs W} : Reps K H F ds vs W → Reps K H F (.int i :: ds) (.int i :: vs) W
  | str {s ds vs W} : Reps K H F ds vs W → Reps K H F (.str s :: ds) (.str s :: vs) W
  | tup {a us es W1 ds vs W2} : SqT K H a us → Reps K H F es us W1 → Reps K H F ds vs W2 → Reps K H F (.tup es :: ds) (.ref a :: vs) (W1 ++ W2)
  | sh {a us es ds vs W} : F a → H a = some (.lst us) → Reps K H F es us [] → Reps K H F ds vs W → Reps K H F (.lst false es :: ds) (.ref a :: vs) W
  | own {a us es W1 ds vs W2} : H a = some (.lst us) → Reps K H F es us W1 → Reps K H F ds vs W2 → Reps K H F (.lst true es :: ds) (.ref a :: vs) (a :: (W1 ++ W2))
  | dsh {a ks us es ds vs W} : F a → H a = some (.dK (ks.zip us)) → ks.length = us.length → Reps K H F es us [] → Reps K H F ds vs W → Reps K H F (.dic false ks es :: ds) (.ref a :: vs) W
  | down {a ks us es W1 ds vs W2} : H a = some (.dK (ks.zip us)) → ks.length = us.length → Reps K H F es us W1 → Reps K H F ds vs W2 → Reps K H F (.dic true ks es :: ds) (.ref a :: vs) (a :: (W1 ++ W2))
  | frz {a us es ds vs W} : FrzOk K H F a us → Reps K H F es us [] → Reps K H F ds vs W → Reps K H F (.frz es :: ds) (.ref a :: vs) W

def IsMut (H : Hp) (a : Addr) : Prop := (∃ xs, H a = some (.lst xs)) ∨ ∃ kvs, H a = some (.dK kvs)
theorem IsMut.some {H : Hp} {a : Addr} (h : IsMut H a) : H a ≠ none := by
  rcases h with ⟨_, h⟩ | ⟨_, h⟩ <;> (rw [h]; exact fun z => nomatch z)

section
variable {K : PySem.W.Frag} {H H' : Hp} {F F' : Addr → Prop} {ds : List D} {vs : List V} {W W1 W2 B : List Addr}

theorem Reps.muts (r : Reps K H F ds vs W) : ∀ a ∈ W, IsMut H a := by
  induction r with
  | nil => intro a h; cases h
  | non _ ih | bl _ ih | int _ ih | str _ ih => exact ih
  | tup _ _ _ i1 i2 => intro a h; rcases List.mem_append.mp h with h | h; exact i1 a h; exact i2 a h
  | sh _ _ _ _ _ ih => exact ih
  | own h _ _ i1 i2 =>
    intro a hm
    rcases List.mem_cons.mp hm with rfl | hm
    · exact .inl ⟨_, h⟩
    · rcases List.mem_append.mp hm with h | h; exact i1 a h; exact i2 a h
  | dsh _ _ _ _ _ _ ih => exact ih
  | down h _ _ _ i1 i2 =>
    intro a hm
    rcases List.mem_cons.mp hm with rfl | hm
    · exact .inr ⟨_, h⟩
    · rcases List.mem_append.mp hm with h | h; exact i1 a h; exact i2 a h
  | frz _ _ _ _ ih => exact ih

theorem Reps.length (r : Reps K H F ds vs W) : ds.length = vs.length := by
  induction r <;> simp_all

theorem SqT.frame {a : Addr} {us : List V} (h : SqT K H a us) (k : ∀ a o, H a = some o → a ∉ B → H' a = some o) (hm : ∀ a ∈ B, IsMut H a) : SqT K H' a us := by
  rcases h with h | h
  · refine .inl ?_
    rcases h with h | ⟨o, h⟩
    · refine .inl (k _ _ h fun z => ?_)
      rcases hm _ z with ⟨_, q⟩ | ⟨_, q⟩ <;> rw [h] at q <;> cases q
    · refine .inr ⟨o, k _ _ h fun z => ?_⟩
      rcases hm _ z with ⟨_, q⟩ | ⟨_, q⟩ <;> rw [h] at q <;> cases q
  · exact .inr h

/-- what is changed elsewhere leaves it -/
theorem Reps.frame (r : Reps K H F ds vs W) (k : ∀ a o, H a = some o → a ∉ B → H' a = some o) (hm : ∀ a ∈ B, IsMut H a) (hd : ∀ a ∈ W, a ∉ B) (hF : ∀ a, F a → a ∉ B) (mono : ∀ a, F a → F' a) :
    Reps K H' F' ds vs W := by
  induction r with
  | nil => exact .nil
  | non _ ih => exact .non (ih hd)
  | bl _ ih => exact .bl (ih hd)
  | int _ ih => exact .int (ih hd)
  | str _ ih => exact .str (ih hd)
  | tup h _ _ i1 i2 => exact .tup (SqT.frame h k hm) (i1 fun a m => hd a (List.mem_append_left _ m)) (i2 fun a m => hd a (List.mem_append_right _ m))
  | sh f h _ _ i1 i2 => exact .sh (mono _ f) (k _ _ h (hF _ f)) (i1 fun a m => nomatch m) (i2 hd)
  | own h _ _ i1 i2 =>
    exact .own (k _ _ h (hd _ List.mem_cons_self)) (i1 fun a m => hd a (List.mem_cons_of_mem _ (List.mem_append_left _ m))) (i2 fun a m => hd a (List.mem_cons_of_mem _ (List.mem_append_right _ m)))
  | dsh f h e _ _ i1 i2 => exact .dsh (mono _ f) (k _ _ h (hF _ f)) e (i1 fun a m => nomatch m) (i2 hd)
  | down h e _ _ i1 i2 =>
    exact .down (k _ _ h (hd _ List.mem_cons_self)) e (i1 fun a m => hd a (List.mem_cons_of_mem _ (List.mem_append_left _ m))) (i2 fun a m => hd a (List.mem_cons_of_mem _ (List.mem_append_right _ m)))
  | frz f _ _ i1 i2 =>
    refine .frz ?_ (i1 fun a m => nomatch m) (i2 hd)
    rcases f with ⟨f, g⟩ | f
    · refine .inl ⟨?_, mono _ g⟩
      rcases f with f | ⟨o, f⟩
      · exact .inl (k _ _ f (hF _ g))
      · exact .inr ⟨o, k _ _ f (hF _ g)⟩
    · exact .inr f

mutual
/-- the lists of d are ours alone, or there are none: none is marked as another's -/
def D.noSh : D → Bool
  | .non | .bl _ | .int _ | .str _ => true
  | .tup ds => D.noShs ds
  | .lst b ds => b && D.noShs ds
  | .dic b _ ds => b && D.noShs ds
  | .frz _ => false
def D.noShs : List D → Bool
  | [] => true
  | d :: ds => d.noSh && D.noShs ds
end
mutual
def D.noOwn : D → Bool
  | .non | .bl _ | .int _ | .str _ => true
  | .tup ds => D.noOwns ds
  | .lst b ds => !b && D.noOwns ds
  | .dic b _ ds => !b && D.noOwns ds
  | .frz _ => true
def D.noOwns : List D → Bool
  | [] => true
  | d :: ds => d.noOwn && D.noOwns ds
end
mutual
/-- handed on: nobody changes it any more -/
def D.fz : D → D
  | .non => .non
  | .bl b => .bl b
  | .int i => .int i
  | .str s => .str s
  | .tup ds => .tup (D.fzs ds)
  | .lst _ ds => .lst false (D.fzs ds)
  | .dic _ ks ds => .dic false ks (D.fzs ds)
  | .frz ds => .frz ds
def D.fzs : List D → List D
  | [] => []
  | d :: ds => d.fz :: D.fzs ds
end
theorem fzs_eq : ∀ ds : List D, D.fzs ds = ds.map D.fz
  | [] => by simp [D.fzs]
  | d :: ds => by simp [D.fzs, fzs_eq ds]
theorem noShs_eq : ∀ ds : List D, D.noShs ds = ds.all D.noSh
  | [] => by simp [D.noShs]
  | d :: ds => by simp [D.noShs, noShs_eq ds]
theorem noOwns_eq : ∀ ds : List D, D.noOwns ds = ds.all D.noOwn
  | [] => by simp [D.noOwns]
  | d :: ds => by simp [D.noOwns, noOwns_eq ds]

theorem Reps.noSh (r : Reps K H F ds vs W) (h : D.noShs ds = true) : Reps K H F' ds vs W := by
  induction r with
  | nil => exact .nil
  | non _ ih => exact .non (ih (by simpa [D.noShs, D.noSh] using h))
  | bl _ ih => exact .bl (ih (by simpa [D.noShs, D.noSh] using h))
  | int _ ih => exact .int (ih (by simpa [D.noShs, D.noSh] using h))
  | str _ ih => exact .str (ih (by simpa [D.noShs, D.noSh] using h))
  | tup s _ _ i1 i2 =>
    simp only [D.noShs, D.noSh, Bool.and_eq_true] at h
    exact .tup s (i1 h.1) (i2 h.2)
  | sh f s _ _ i1 i2 => simp [D.noShs, D.noSh] at h
  | own s _ _ i1 i2 =>
    simp only [D.noShs, D.noSh, Bool.and_eq_true, Bool.true_and] at h
    exact .own s (i1 h.1) (i2 h.2)
  | dsh f s e _ _ i1 i2 => simp [D.noShs, D.noSh] at h
  | down s e _ _ i1 i2 =>
    simp only [D.noShs, D.noSh, Bool.and_eq_true, Bool.true_and] at h
    exact .down s e (i1 h.1) (i2 h.2)
  | frz => simp [D.noShs, D.noSh] at h

theorem Reps.noOwn (r : Reps K H F ds vs W) (h : D.noOwns ds = true) : W = [] := by
  induction r with
  | nil => rfl
  | non _ ih => exact ih (by simpa [D.noOwns, D.noOwn] using h)
  | bl _ ih => exact ih (by simpa [D.noOwns, D.noOwn] using h)
  | int _ ih => exact ih (by simpa [D.noOwns, D.noOwn] using h)
  | str _ ih => exact ih (by simpa [D.noOwns, D.noOwn] using h)
  | tup s _ _ i1 i2 =>
    simp only [D.noOwns, D.noOwn, Bool.and_eq_true] at h
    rw [i1 h.1, i2 h.2]; rfl
  | sh f s _ _ i1 i2 => simp only [D.noOwns, D.noOwn, Bool.and_eq_true] at h; exact i2 h.2
  | own s _ _ i1 i2 => simp [D.noOwns, D.noOwn] at h
  | dsh f s e _ _ i1 i2 => simp only [D.noOwns, D.noOwn, Bool.and_eq_true] at h; exact i2 h.2
  | down s e _ _ i1 i2 => simp [D.noOwns, D.noOwn] at h
  | frz _ _ _ _ i2 => simp only [D.noOwns, D.noOwn, Bool.true_and] at h; exact i2 h

/-- nobody changes it any more: the addresses that were ours go to those that stay -/
theorem Reps.fz (r : Reps K H F ds vs W) (hF : ∀ a, F a → F' a) (hW : ∀ a ∈ W, F' a) : Reps K H F' (D.fzs ds) vs [] := by
  induction r with
  | nil => exact .nil
  | non _ ih => exact .non (ih hW)
  | bl _ ih => exact .bl (ih hW)
  | int _ ih => exact .int (ih hW)
  | str _ ih => exact .str (ih hW)
  | tup s _ _ i1 i2 =>
    have := Reps.tup s (i1 fun a m => hW a (List.mem_append_left _ m)) (i2 fun a m => hW a (List.mem_append_right _ m))
    simpa [D.fzs, D.fz] using this
  | sh f s _ _ i1 i2 =>
    have := Reps.sh (hF _ f) s (i1 fun a m => nomatch m) (i2 hW)
    simpa [D.fzs, D.fz] using this
  | own s _ _ i1 i2 =>
    have := Reps.sh (hW _ List.mem_cons_self) s (i1 fun a m => hW a (List.mem_cons_of_mem _ (List.mem_append_left _ m))) (i2 fun a m => hW a (List.mem_cons_of_mem _ (List.mem_append_right _ m)))
    simpa [D.fzs, D.fz] using this
  | dsh f s e _ _ i1 i2 =>
    have := Reps.dsh (hF _ f) s e (i1 fun a m => nomatch m) (i2 hW)
    simpa [D.fzs, D.fz] using this
  | down s e _ _ i1 i2 =>
    have := Reps.dsh (hW _ List.mem_cons_self) s e (i1 fun a m => hW a (List.mem_cons_of_mem _ (List.mem_append_left _ m))) (i2 fun a m => hW a (List.mem_cons_of_mem _ (List.mem_append_right _ m)))
    simpa [D.fzs, D.fz] using this
  | @frz a us es ds vs W f r1 r2 i1 i2 =>
    have f' : FrzOk K H F' a us := by
      rcases f with ⟨f, g⟩ | f
      · exact .inl ⟨f, hF _ g⟩
      · exact .inr f
    have r1' : Reps K H F' es us [] := r1.frame (B := []) (fun a o h _ => h) (fun a m => nomatch m) (fun a m => nomatch m) (fun a _ m => nomatch m) hF
    have := Reps.frz f' r1' (i2 hW)
    simpa [D.fzs, D.fz] using this

theorem Reps.cons_iff {d : D} {v : V} : Reps K H F (d :: ds) (v :: vs) W ↔ ∃ W1 W2, W = W1 ++ W2 ∧ Reps K H F [d] [v] W1 ∧ Reps K H F ds vs W2 := by
  constructor
  · intro h
    cases h with
    | non r => exact ⟨[], W, rfl, .non .nil, r⟩
    | bl r => exact ⟨[], W, rfl, .bl .nil, r⟩
    | int r => exact ⟨[], W, rfl, .int .nil, r⟩
    | str r => exact ⟨[], W, rfl, .str .nil, r⟩
    | @tup a us es W1 _ _ W2 s r1 r2 => exact ⟨W1, W2, rfl, by simpa using Reps.tup s r1 .nil, r2⟩
    | sh f s r1 r2 => exact ⟨[], W, rfl, .sh f s r1 .nil, r2⟩
    | @own a us es W1 _ _ W2 s r1 r2 => exact ⟨a :: W1, W2, by simp, by simpa using Reps.own s r1 .nil, r2⟩
    | dsh f s e r1 r2 => exact ⟨[], W, rfl, .dsh f s e r1 .nil, r2⟩
    | @down a ks us es W1 _ _ W2 s e r1 r2 => exact ⟨a :: W1, W2, by simp, by simpa using Reps.down s e r1 .nil, r2⟩
    | frz f r1 r2 => exact ⟨[], W, rfl, .frz f r1 .nil, r2⟩
  · rintro ⟨W1, W2, rfl, h, h2⟩
    cases h with
    | non r => cases r; exact .non h2
    | bl r => cases r; exact .bl h2
    | int r => cases r; exact .int h2
    | str r => cases r; exact .str h2
    | tup s r1 r2 => cases r2; simpa using Reps.tup s r1 h2
    | sh f s r1 r2 => cases r2; simpa using Reps.sh f s r1 h2
    | own s r1 r2 => cases r2; simpa using Reps.own s r1 h2
    | dsh f s e r1 r2 => cases r2; simpa using Reps.dsh f s e r1 h2
    | down s e r1 r2 => cases r2; simpa using Reps.down s e r1 h2
    | frz f r1 r2 => cases r2; simpa using Reps.frz f r1 h2

theorem Reps.append {ds2 : List D} {vs2 : List V} : ∀ {ds : List D} {vs : List V} {W1 : List Addr}, Reps K H F ds vs W1 → Reps K H F ds2 vs2 W2 → Reps K H F (ds ++ ds2) (vs ++ vs2) (W1 ++ W2)
  | [], [], _, h, h2 => by cases h; exact h2
  | d :: ds, v :: vs, _, h, h2 => by
    obtain ⟨Wa, Wb, rfl, ra, rb⟩ := Reps.cons_iff.mp h
    rw [List.append_assoc]
    exact Reps.cons_iff.mpr ⟨Wa, _, rfl, ra, rb.append h2⟩
  | [], v :: vs, _, h, _ => by cases h
  | d :: ds, [], _, h, _ => by cases h

theorem Reps.split {ds2 : List D} : ∀ {ds : List D} {vs : List V} {W : List Addr}, Reps K H F (ds ++ ds2) vs W → ∃ vs1 vs2 W1 W2, vs = vs1 ++ vs2 ∧ W = W1 ++ W2 ∧ Reps K H F ds vs1 W1 ∧ Reps K H F ds2 vs2 W2
  | [], vs, W, h => ⟨[], vs, [], W, rfl, rfl, .nil, h⟩
  | d :: ds, [], _, h => by cases h
  | d :: ds, v :: vs, _, h => by
    obtain ⟨Wa, Wb, rfl, ra, rb⟩ := Reps.cons_iff.mp h
    obtain ⟨v1, v2, W1, W2, rfl, rfl, r1, r2⟩ := Reps.split rb
    exact ⟨v :: v1, v2, Wa ++ W1, W2, rfl, by simp, Reps.cons_iff.mpr ⟨Wa, W1, rfl, ra, r1⟩, r2⟩

theorem Reps.get : ∀ {ds : List D} {vs : List V} {W : List Addr} {i : Nat} {d : D}, Reps K H F ds vs W → ds[i]? = some d → ∃ v W1, vs[i]? = some v ∧ Reps K H F [d] [v] W1 ∧ W1.Sublist W
  | [], _, _, _, _, _, e => by simp at e
  | d :: ds, [], _, _, _, h, _ => by cases h
  | d :: ds, v :: vs, _, 0, d', h, e => by
    obtain ⟨Wa, Wb, rfl, ra, rb⟩ := Reps.cons_iff.mp h
    simp at e; subst e
    exact ⟨v, Wa, rfl, ra, List.sublist_append_left ..⟩
  | d :: ds, v :: vs, _, i + 1, d', h, e => by
    obtain ⟨Wa, Wb, rfl, ra, rb⟩ := Reps.cons_iff.mp h
    obtain ⟨v', W1, e1, r1, s1⟩ := Reps.get (i := i) rb (by simpa using e)
    exact ⟨v', W1, by simpa using e1, r1, s1.trans (List.sublist_append_right ..)⟩
end

/-- the addresses that are ours: unlike, none of those that stay -/
structure Wf (H : Hp) (F : Addr → Prop) (W : List Addr) : Prop where
  nd : W.Nodup
  dj : ∀ a ∈ W, ¬ F a
  tr : ∀ a, F a → H a ≠ none

/-- from one state to a later one -/
structure Ext (H : Hp) (F : Addr → Prop) (W : List Addr) (H' : Hp) (F' : Addr → Prop) (W' : List Addr) : Prop where
  keep : ∀ a o, H a = some o → a ∉ W → H' a = some o
  w : ∀ a ∈ W', a ∈ W ∨ H a = none
  mono : ∀ a, F a → F' a
  f : ∀ a, F' a → F a ∨ a ∈ W ∨ H a = none
  live : ∀ a, H a ≠ none → H' a ≠ none

section
variable {K : PySem.W.Frag} {H H1 H2 : Hp} {F F1 F2 : Addr → Prop} {W W0 W1 W2 : List Addr} {ds : List D} {vs : List V}
theorem Ext.refl : Ext H F W H F W := ⟨fun _ _ h _ => h, fun _ h => .inl h, fun _ h => h, fun _ h => .inl h, fun _ h => h⟩
theorem Ext.trans (a : Ext H F W H1 F1 W1) (b : Ext H1 F1 W1 H2 F2 W2) : Ext H F W H2 F2 W2 where
  keep := fun c o h n => b.keep c o (a.keep c o h n) fun m => (a.w c m).elim n fun z => by rw [h] at z; cases z
  w := fun c m => (b.w c m).elim (a.w c) fun z => .inr (by
    cases q : H c with
    | none => rfl
    | some o => exact absurd z (a.live c (by rw [q]; exact fun z => nomatch z)))
  mono := fun c h => b.mono c (a.mono c h)
  f := fun c h => by
    have no : H1 c = none → H c = none := fun z => by
      cases q : H c with
      | none => rfl
      | some o => exact absurd z (a.live c (by rw [q]; exact fun z => nomatch z))
    rcases b.f c h with z | z | z
    · exact a.f c z
    · exact .inr (a.w c z)
    · exact .inr (.inr (no z))
  live := fun c h => b.live c (a.live c h)
theorem Ext.sub (a : Ext H F W H1 F1 W1) (h : ∀ c ∈ W2, c ∈ W1) : Ext H F W H1 F1 W2 := ⟨a.keep, fun c m => a.w c (h c m), a.mono, a.f, a.live⟩
theorem Ext.wid (a : Ext H F W H1 F1 W1) (h : ∀ c ∈ W, c ∈ W0) : Ext H F W0 H1 F1 W1 :=
  ⟨fun c o e n => a.keep c o e fun z => n (h c z), fun c m => (a.w c m).elim (fun z => .inl (h c z)) .inr, a.mono, fun c z => (a.f c z).elim .inl fun z => .inr (z.elim (fun z => .inl (h c z)) .inr), a.live⟩
theorem Wf.sub (h : Wf H F W) (s : W1.Sublist W) : Wf H F W1 := ⟨h.nd.sublist s, fun a m => h.dj a (s.subset m), h.tr⟩
theorem Wf.perm (h : Wf H F W) (p : W.Perm W1) : Wf H F W1 := ⟨p.nodup_iff.mp h.nd, fun a m => h.dj a (p.mem_iff.mpr m), h.tr⟩
theorem Wf.left (h : Wf H F (W1 ++ W2)) : Wf H F W1 := h.sub (List.sublist_append_left ..)
theorem Wf.right (h : Wf H F (W1 ++ W2)) : Wf H F W2 := h.sub (List.sublist_append_right ..)

/-- what stands aside (temporaries) stays -/
theorem aside (r : Reps K H F ds vs W0) (m : ∀ a ∈ W, IsMut H a) (w : Wf H F (W0 ++ W)) (x : Ext H F W H1 F1 W1) (w1 : Wf H1 F1 W1) :
    Reps K H1 F1 ds vs W0 ∧ Wf H1 F1 (W0 ++ W1) ∧ Ext H F (W0 ++ W) H1 F1 (W0 ++ W1) := by
  have nd := List.nodup_append.mp w.nd
  have dis : ∀ a ∈ W0, a ∉ W := fun a h z => nd.2.2 a h a z rfl
  have m0 := r.muts
  refine ⟨r.frame x.keep m dis (fun a h z => w.dj a (List.mem_append_right _ z) h) x.mono, ⟨?_, fun a h => ?_, w1.tr⟩, ⟨fun a o h n => x.keep a o h fun z => n (List.mem_append_right _ z), fun a h => ?_, x.mono, fun a h => ?_, x.live⟩⟩
  · refine List.nodup_append.mpr ⟨nd.1, w1.nd, fun a h b h' e => ?_⟩
    subst e
    rcases x.w a h' with z | z
    · exact dis a h z
    · exact (m0 a h).some z
  · rcases List.mem_append.mp h with h | h
    · intro z
      rcases x.f a z with z | z | z
      · exact w.dj a (List.mem_append_left _ h) z
      · exact dis a h z
      · exact (m0 a h).some z
    · exact w1.dj a h
  · rcases List.mem_append.mp h with h | h
    · exact .inl (List.mem_append_left _ h)
    · exact (x.w a h).elim (fun z => .inl (List.mem_append_right _ z)) .inr
  · rcases x.f a h with z | z | z
    · exact .inl z
    · exact .inr (.inl (List.mem_append_right _ z))
    · exact .inr (.inr z)
end

/-! ### the locals -/
abbrev Lcs := List (Option D)
/-- the locals' data, slot by slot, with the addresses of each that are ours -/
inductive LReps (K : PySem.W.Frag) (H : Hp) (F : Addr → Prop) : Lcs → St → List (List Addr) → Prop
  | nil : LReps K H F [] [] []
  | skip {L σ ws x} : LReps K H F L σ ws → LReps K H F (none :: L) (x :: σ) ([] :: ws)
  | cons {d v L σ W1 ws} : Reps K H F [d] [v] W1 → LReps K H F L σ ws → LReps K H F (some d :: L) (some v :: σ) (W1 :: ws)
theorem flat_set {ws : List (List Addr)} {i : Nat} {W : List Addr} : (i < ws.length) → (ws.set i W).flatten.Perm (W ++ (ws.set i []).flatten) := by
  induction ws generalizing i with
  | nil => intro h; simp at h
  | cons w ws ih =>
    intro h
    cases i with
    | zero => simp
    | succ i =>
      simp only [List.set_cons_succ, List.flatten_cons]
      refine (List.Perm.append_left w (ih (by simpa using h))).trans ?_
      rw [← List.append_assoc, ← List.append_assoc]
      exact List.Perm.append_right _ List.perm_append_comm
theorem flat_take {ws : List (List Addr)} {i : Nat} : (i < ws.length) → ws.flatten.Perm (ws.getD i [] ++ (ws.set i []).flatten) := by
  induction ws generalizing i with
  | nil => intro h; simp at h
  | cons w ws ih =>
    intro h
    cases i with
    | zero => simp
    | succ i =>
      simp only [List.set_cons_succ, List.flatten_cons, List.getD_cons_succ]
      refine (List.Perm.append_left w (ih (by simpa using h))).trans ?_
      rw [← List.append_assoc, ← List.append_assoc]
      exact List.Perm.append_right _ List.perm_append_comm
theorem flat_none {ws : List (List Addr)} (i : Nat) : (ws.set i []).flatten.Sublist ws.flatten := by
  induction ws generalizing i with
  | nil => simp
  | cons w ws ih =>
    cases i with
    | zero => simp
    | succ i => simpa using List.Sublist.append (List.Sublist.refl w) (ih i)
theorem flat_mem {ws : List (List Addr)} {i : Nat} {a : Addr} (h : a ∈ ws.getD i []) : a ∈ ws.flatten := by
  induction ws generalizing i with
  | nil => simp at h
  | cons w ws ih =>
    cases i with
    | zero => simp at h; simp [h]
    | succ i => simp at h; simp only [List.flatten_cons, List.mem_append]; exact .inr (ih (by simpa using h))
section
variable {K : PySem.W.Frag} {H H1 H' : Hp} {F F1 F' : Addr → Prop} {W W0 W1 W2 B : List Addr} {ws : List (List Addr)} {L : Lcs} {σ : St} {d : D} {v : V} {i : Nat}
theorem LReps.length (r : LReps K H F L σ ws) : L.length = σ.length ∧ L.length = ws.length := by
  induction r with
  | nil => exact ⟨rfl, rfl⟩
  | skip _ ih => exact ⟨by simp [ih.1], by simp [ih.2]⟩
  | cons _ _ ih => exact ⟨by simp [ih.1], by simp [ih.2]⟩
theorem LReps.muts (r : LReps K H F L σ ws) : ∀ a ∈ ws.flatten, IsMut H a := by
  induction r with
  | nil => intro a h; cases h
  | skip _ ih => intro a h; exact ih a (by simpa using h)
  | cons r _ ih => intro a h; rw [List.flatten_cons] at h; exact (List.mem_append.mp h).elim (r.muts a) (ih a)
theorem LReps.frame (r : LReps K H F L σ ws) (k : ∀ a o, H a = some o → a ∉ B → H' a = some o) (hm : ∀ a ∈ B, IsMut H a) (hd : ∀ a ∈ ws.flatten, a ∉ B) (hF : ∀ a, F a → a ∉ B) (mono : ∀ a, F a → F' a) :
    LReps K H' F' L σ ws := by
  induction r with
  | nil => exact .nil
  | skip _ ih => exact .skip (ih fun a m => hd a (by simpa using m))
  | cons r _ ih =>
    rw [List.flatten_cons] at hd
    exact .cons (r.frame k hm (fun a m => hd a (List.mem_append_left _ m)) hF mono) (ih fun a m => hd a (List.mem_append_right _ m))
/-- a slot's value -/
theorem LReps.get : ∀ {L : Lcs} {σ : St} {ws : List (List Addr)} {i : Nat} {d : D}, LReps K H F L σ ws → L[i]? = some (some d) → ∃ v, σ[i]? = some (some v) ∧ Reps K H F [d] [v] (ws.getD i []) ∧ i < ws.length
  | [], _, _, _, _, _, e => by simp at e
  | _ :: _, _, _, 0, _, .cons r _, e => by simp at e; subst e; exact ⟨_, rfl, r, by simp⟩
  | _ :: _, _, _, 0, _, .skip _, e => by simp at e
  | _ :: _, _, _, i + 1, _, .cons _ l, e => by obtain ⟨v, a, b, c⟩ := LReps.get (i := i) l (by simpa using e); exact ⟨v, by simpa using a, by simpa using b, by simpa using c⟩
  | _ :: _, _, _, i + 1, _, .skip l, e => by obtain ⟨v, a, b, c⟩ := LReps.get (i := i) l (by simpa using e); exact ⟨v, by simpa using a, by simpa using b, by simpa using c⟩
/-- a slot is forgotten; whatever is stored there -/
theorem LReps.drop : ∀ {L : Lcs} {σ : St} {ws : List (List Addr)} (i : Nat) (x : Option V), LReps K H F L σ ws → LReps K H F (L.set i none) (σ.set i x) (ws.set i [])
  | _, _, _, _, _, .nil => by simpa using LReps.nil
  | _, _, _, 0, _, .cons _ l => .skip l
  | _, _, _, 0, _, .skip l => .skip l
  | _, _, _, i + 1, x, .cons r l => .cons r (l.drop i x)
  | _, _, _, i + 1, x, .skip l => .skip (l.drop i x)
theorem LReps.forget : ∀ {L : Lcs} {σ : St} {ws : List (List Addr)} (i : Nat), LReps K H F L σ ws → LReps K H F (L.set i none) σ (ws.set i [])
  | _, _, _, _, .nil => by simpa using LReps.nil
  | _, _, _, 0, .cons _ l => .skip l
  | _, _, _, 0, .skip l => .skip l
  | _, _, _, i + 1, .cons r l => .cons r (l.forget i)
  | _, _, _, i + 1, .skip l => .skip (l.forget i)
/-- a slot is filled -/
theorem LReps.put : ∀ {L : Lcs} {σ : St} {ws : List (List Addr)} {i : Nat}, LReps K H F L σ ws → σ[i]? = some (some v) → Reps K H F [d] [v] W1 → LReps K H F (L.set i (some d)) σ (ws.set i W1)
  | [], _, _, _, .nil, e, _ => by simp at e
  | _ :: _, _, _, 0, .skip l, e, r => by simp at e; subst e; exact .cons r l
  | _ :: _, _, _, 0, .cons _ l, e, r => by simp at e; subst e; exact .cons r l
  | _ :: _, _, _, i + 1, .skip l, e, r => .skip (l.put (by simpa using e) r)
  | _ :: _, _, _, i + 1, .cons r0 l, e, r => .cons r0 (l.put (by simpa using e) r)
theorem LReps.store {L : Lcs} {σ : St} {ws : List (List Addr)} {i : Nat} (h : LReps K H F L σ ws) (r : Reps K H F [d] [v] W1) : LReps K H F (L.set i (some d)) (σ.set i (some v)) (ws.set i W1) := by
  by_cases hi : i < σ.length
  · have h1 := h.drop i (some v)
    have h2 := h1.put (i := i) (d := d) (v := v) (W1 := W1) (by simp [hi]) r
    simpa [List.set_set] using h2
  · have hl := h.length
    rw [List.set_eq_of_length_le (by omega), List.set_eq_of_length_le (by omega), List.set_eq_of_length_le (by omega)]
    exact h
theorem lasideL (r : LReps K H F L σ ws) (m : ∀ a ∈ W, IsMut H a) (w : Wf H F (ws.flatten ++ W)) (x : Ext H F W H1 F1 W1) : LReps K H1 F1 L σ ws := by
  have nd := List.nodup_append.mp w.nd
  exact r.frame x.keep m (fun a h z => nd.2.2 a h a z rfl) (fun a h z => w.dj a (List.mem_append_right _ z) h) x.mono
end
end Q

namespace Q
open PySem L2

/-! ## the small language and what it computes -/
inductive O1 where
  | neg | len | abs | int1 | isi (ts : List String) | isN | ntN | not | eqE | neE
inductive O2 where
  | add | sub | mul | fdiv | mod | pow | lt | le | gt | ge | eq | ne | ix | min | max | isin | notin

def lim : Nat := 16777216
def pow64 : Nat := 18446744073709551616

mutual
def D.toPy : D → Option PyData
  | .non => some .none
  | .bl b => some (.bool b)
  | .int i => some (.int i)
  | .str s => some (.str s)
  | .tup ds => match D.toPys ds with | some ps => some (.tuple ps) | none => none
  | .lst _ ds => match D.toPys ds with | some ps => some (.list ps) | none => none
  | .frz ds => match D.toPys ds with | some ps => some (.list ps) | none => none
  | .dic .. => none
def D.toPys : List D → Option (List PyData)
  | [] => some []
  | d :: ds => match d.toPy, D.toPys ds with | some p, some ps => some (p :: ps) | _, _ => none
end
def eqD : D → D → Option Bool
  | .int i, .int j => some (decide (i = j))
  | d, e => match d.toPy, e.toPy with
    | some p, some q => if SeqAt.shaped p && SeqAt.shaped q then some (PyData.eqv p q) else none
    | _, _ => none

def D.isT : D → String → Bool
  | .non, _ => false
  | .bl _, t => t == "bool" || t == "int"
  | .int _, t => t == "int"
  | .str _, t => t == "str"
  | .tup _, t => t == "tuple"
  | .lst _ _, t => t == "list"
  | .frz _, t => t == "list"
  | .dic .., t => t == "dict"
def tyOk (t : String) : Bool := t == "int" || t == "bool" || t == "str" || t == "list" || t == "tuple" || t == "dict"

def tru : D → Option Bool
  | .non => some false
  | .bl b => some b
  | .int i => some (i != 0)
  | .str _ => none
  | .tup ds => some (!ds.isEmpty)
  | .lst _ ds => some (!ds.isEmpty)
  | .frz ds => some (!ds.isEmpty)
  | _ => none

def D.els : D → Option (List D)
  | .tup ds => some ds
  | .lst _ ds => some ds
  | .frz ds => some ds
  | _ => none

def ap1 : O1 → D → Option D
  | .neg, .int i => some (.int (-i))
  | .len, .tup ds => some (.int ds.length)
  | .len, .lst _ ds => some (.int ds.length)
  | .len, .frz ds => some (.int ds.length)
  | .abs, .int i => some (.int (if i < 0 then -i else i))
  | .int1, .int i => some (.int i)
  | .int1, .bl b => some (.int (if b then 1 else 0))
  | .isi ts, d => some (.bl (ts.any d.isT))
  | .isN, .non => some (.bl true)
  | .isN, _ => some (.bl false)
  | .ntN, .non => some (.bl false)
  | .ntN, _ => some (.bl true)
  | .not, d => match tru d with | some b => some (.bl (!b)) | none => none
  | .eqE, d => match eqD d (.lst false []) with | some b => some (.bl b) | none => none
  | .neE, d => match eqD d (.lst false []) with | some b => some (.bl (!b)) | none => none
  | _, _ => none

def flatD : D → Bool
  | .non | .bl _ | .int _ | .str _ => true
  | _ => false
def eqF : D → D → Bool
  | .int i, .int j => decide (i = j)
  | .bl a, .bl b => a == b
  | .bl a, .int j => (if a then 1 else 0) == j
  | .int i, .bl b => i == (if b then 1 else 0)
  | .str x, .str y => decide (x = y)
  | .non, .non => true
  | _, _ => false

def ap2 : O2 → D → D → Option D
  | .add, .int i, .int j => some (.int (i + j))
  | .sub, .int i, .int j => some (.int (i - j))
  | .mul, .int i, .int j => if i.natAbs.log2 + j.natAbs.log2 < 1000000 then some (.int (i * j)) else none
  | .fdiv, .int i, .int j => if j ≠ 0 ∧ j.natAbs.log2 < 9000 then some (.int (i.fdiv j)) else none
  | .mod, .int i, .int j => if j ≠ 0 then some (.int (i.fmod j)) else none
  | .pow, .int i, .int j => if 0 ≤ j ∧ j ≤ 1000 ∧ i.natAbs < pow64 then some (.int (i ^ j.toNat)) else none
  | .lt, .int i, .int j => some (.bl (decide (i < j)))
  | .le, .int i, .int j => some (.bl (decide (i ≤ j)))
  | .gt, .int i, .int j => some (.bl (decide (j < i)))
  | .ge, .int i, .int j => some (.bl (decide (j ≤ i)))
  | .eq, d, e => match eqD d e with | some b => some (.bl b) | none => none
  | .ne, d, e => match eqD d e with | some b => some (.bl (!b)) | none => none
  | .ix, .tup ds, .int i => atI ds i
  | .ix, .lst _ ds, .int i => atI ds i
  | .ix, .frz ds, .int i => atI ds i
  | .min, .int i, .int j => some (.int (if j < i then j else i))
  | .max, .int i, .int j => some (.int (if j > i then j else i))
  | .isin, x, .tup ds => if flatD x && ds.all flatD then some (.bl (ds.any fun y => eqF y x)) else none
  | .isin, x, .lst _ ds => if flatD x && ds.all flatD then some (.bl (ds.any fun y => eqF y x)) else none
  | .notin, x, .tup ds => if flatD x && ds.all flatD then some (.bl (!ds.any fun y => eqF y x)) else none
  | .notin, x, .lst _ ds => if flatD x && ds.all flatD then some (.bl (!ds.any fun y => eqF y x)) else none
  | _, _, _ => none

/-- pure expressions -/
inductive P where
  | var (i : Nat) | int (i : Int) | bl (b : Bool) | non | str (s : Str)
  | glob (x : Str)
  | o1 (o : O1) (a : P) | o2 (o : O2) (a b : P)
  | and (a b : P) | or (a b : P) | ife (c a b : P)

def P.root : P → Option Nat
  | .var i => some i
  | .o2 .ix a _ => a.root
  | _ => none

def pur (G : Str → Option D) : P → Lcs → Option D
  | .var i, L => match L[i]? with | some (some d) => some d | _ => none
  | .int i, _ => some (.int i)
  | .bl b, _ => some (.bl b)
  | .non, _ => some .non
  | .str s, _ => some (.str s)
  | .glob x, _ => G x
  | .o1 o a, L => match pur G a L with | some d => ap1 o d | none => none
  | .o2 o a b, L => match pur G a L, pur G b L with | some d, some e => ap2 o d e | _, _ => none
  | .and a b, L => match pur G a L with | some (.bl true) => pur G b L | some (.bl false) => some (.bl false) | _ => none
  | .or a b, L => match pur G a L with | some (.bl false) => pur G b L | some (.bl true) => some (.bl true) | _ => none
  | .ife c a b, L => match pur G c L with
    | some d => match tru d with | some true => pur G a L | some false => pur G b L | none => none
    | none => none

inductive Res (α : Type) where
  | ok (a : α) | exn (c : Str) (d : D) | bad
def Res.bind {α β : Type} (r : Res α) (f : α → Res β) : Res β :=
  match r with | .ok a => f a | .exn c d => .exn c d | .bad => .bad
def Res.of {α : Type} : Option α → Res α
  | some a => .ok a
  | none => .bad

def bool? : D → Res Bool
  | .bl b => .ok b
  | _ => .bad
/-- targets -/
inductive Tg where
  | nm (i : Nat) | tup (is : List Nat)

/-- what walks over things and gives one -/
inductive SqO where
  | list | tuple | sum | all | any | min | max | sorted

mutual
inductive E where
  | p (p : P) | mv (i : Nat)
  | o1 (o : O1) (a : E) | o2 (o : O2) (a b : E)
  | and (a b : E) | or (a b : E) | ife (c a b : E)
  | tup (es : Es) | lst (es : Es)
  | call (f : Str) (kw : List Str) (es : Es)
  | sq (o : SqO) (a : E)
  | lc (vs : List Nat) (tg : Tg) (s : Src) (cs : Es) (e : E)
  | cat (a b : E) | rep (a b : E) | slice (a : E) (lo hi : Es)
  | popi (i : Nat) (path : List P) (k : Es)
  | nev
inductive Es where
  | nil | cons (e : E) (es : Es)
inductive Src where
  | e (e : E) | rng (es : Es) | zip (a b : E) | enum (e : E)
end

/-- an argument: a slot's value lent, lent to be changed, or a value of its own -/
inductive Arg where
  | bor (i : Nat) | io (i : Nat) | val (d : D)

abbrev Fn := List D → Res (D × List (Option D))

structure EnvQ where
  G : Str → Option D            -- the module's constants
  call : Str → Fn               -- the defs
  md : Str → List Bool          -- which parameters are changed
  ar : Str → List Str           -- the parameters' names
  N : Nat                       -- how long a while may go

/-- bind a target -/
def Tg.set : Tg → D → Lcs → Option Lcs
  | .nm i, d, L => some (L.set i (some d))
  | .tup is, .tup ds, L => if is.length = ds.length then some ((is.zip ds).foldl (fun L p => L.set p.1 (some p.2)) L) else none
  | _, _, _ => none

/-- a slot's value is lent for good -/
def fzAt (L : Lcs) (i : Nat) : Lcs := match L[i]? with | some (some d) => L.set i (some d.fz) | _ => L

/-- a pure expression's value for keeps -/
def keepP (G : Str → Option D) (p : P) (L : Lcs) : Res (D × Lcs) :=
  match pur G p L with
  | none => .bad
  | some d => if d.noOwn then .ok (d, L) else match p.root with
    | some i => .ok (d.fz, fzAt L i)
    | none => .bad

/-- lists made anew -/
def ints? : List D → Option (List Int)
  | [] => some []
  | .int i :: r => match ints? r with | some is => some (i :: is) | none => none
  | _ => none
def bools? : List D → Option (List Bool)
  | [] => some []
  | .bl i :: r => match bools? r with | some is => some (i :: is) | none => none
  | _ => none

def apS : SqO → D → Option D
  | .list, d => match d.els with | some ds => some (.lst true ds) | none => none
  | .tuple, d => match d.els with | some ds => some (.tup ds) | none => none
  | .sum, .lst _ ds => match ints? ds with | some is => some (.int is.sum) | none => none
  | .all, .lst _ ds => match bools? ds with | some bs => some (.bl (bs.all id)) | none => none
  | .any, .lst _ ds => match bools? ds with | some bs => some (.bl (bs.any id)) | none => none
  | _, _ => none

/-- the slots of a comprehension's names forgotten -/
def wipeL (L : Lcs) : List Nat → Lcs
  | [] => L
  | v :: vs => (wipeL L vs).set v none
/-- a comprehension's turns -/
def lcRun (tg : Tg) (vs : List Nat) (cond : Lcs → Res (Bool × Lcs)) (elt : Lcs → Res (D × Lcs)) : List D → Lcs → Res (List D × Lcs)
  | [], L => .ok ([], L)
  | x :: xs, L =>
    match tg.set x (wipeL L vs) with
    | none => .bad
    | some L1 => match cond L1 with
      | .ok (true, L2) => (match elt L2 with
        | .ok (d, L3) => (match lcRun tg vs cond elt xs L3 with
          | .ok (ds, L4) => .ok (d :: ds, L4)
          | _ => .bad)
        | _ => .bad)
      | .ok (false, L2) => lcRun tg vs cond elt xs L2
      | _ => .bad

/-- behind a comprehension: its names stand as before -/
def was (L0 : Lcs) (i : Nat) : Option D := match L0[i]? with | some (some d) => if d.noOwn then some d else none | _ => none
def resetTo (L0 L : Lcs) : List Nat → Lcs
  | [] => L
  | v :: vs => resetTo L0 (L.set v (was L0 v)) vs

def zip2D : List D → List D → List D
  | x :: xs, y :: ys => .tup [x, y] :: zip2D xs ys
  | _, _ => []
def enumD : Int → List D → List D
  | _, [] => []
  | k, x :: xs => .tup [.int k, x] :: enumD (k + 1) xs
def rngD (lo : Int) : Nat → List D
  | 0 => []
  | n + 1 => .int lo :: rngD (lo + 1) n

/-- the arguments' values at the call: what is lent is frozen, what is changed is taken out -/
def argVals : List Arg → Lcs → Option (List D × Lcs)
  | [], L => some ([], L)
  | .val d :: r, L => match argVals r L with | some (ds, L') => some (d.fz :: ds, L') | none => none
  | .bor i :: r, L => match L[i]?, argVals r L with | some (some d), some (ds, L') => some (d.fz :: ds, L') | _, _ => none
  | .io i :: r, L => match L[i]? with
    | some (some d) => match argVals r (L.set i none) with | some (ds, L') => some (d :: ds, L') | none => none
    | _ => none
/-- what was lent, still there behind the taking out -/
def lentOk (as : List Arg) (L : Lcs) : Bool := as.all fun | .bor i => (match L[i]? with | some (some _) => true | _ => false) | _ => true
def putBack : List Arg → List (Option D) → Lcs → Option Lcs
  | [], [], L => some L
  | .io i :: r, o :: os, L => putBack r os (L.set i o)
  | .io _ :: _, [], _ => none
  | _ :: r, os, L => putBack r os L
  | [], _ :: _, _ => none
def fzLent : List Arg → Lcs → Lcs
  | [], L => L
  | .bor i :: r, L => fzLent r (fzAt L i)
  | _ :: r, L => fzLent r L
def outNoSh : List (Option D) → Bool
  | [] => true
  | none :: r => outNoSh r
  | some d :: r => d.noSh && outNoSh r

/-- the parameters' order out of the written one -/
def permL {α : Type} (idx : List Nat) (xs : List α) : List α := idx.filterMap (xs[·]?)
def idxK (ks ps : List Str) : List Nat := ps.map fun p => ks.idxOf p
/-- the same defs, called by names -/
def EnvQ.kw (V : EnvQ) (ks : List Str) : EnvQ := { V with call := fun f ds => V.call f (permL (idxK ks (V.ar f)) ds), md := fun _ => [] }

def callRun (V : EnvQ) (f : Str) (as : List Arg) (L : Lcs) : Res (D × Lcs) :=
  match argVals as L with
  | none => .bad
  | some (ds, L1) => if lentOk as L1 then
      match V.call f ds with
      | .ok (d, os) => if d.noSh && outNoSh os then
          (match putBack as os L1 with | some L2 => .ok (d, L2) | none => .bad)
        else (match putBack as os (fzLent as L1) with | some L2 => .ok (d, L2) | none => .bad)
      | .exn c x => .exn c x
      | .bad => .bad
    else .bad

/-- a list at the end of a path, changed -/
def updPath (f : List D → Option (List D)) : D → List Int → Option D
  | .lst true ds, [] => match f ds with | some es => some (.lst true es) | none => none
  | .lst true ds, i :: r => match ixN ds.length i with
    | some j => match ds[j]? with
      | some d => match updPath f d r with | some d' => some (.lst true (ds.set j d')) | none => none
      | none => none
    | none => none
  | _, _ => none
def atPath : D → List Int → Option D
  | d, [] => some d
  | .lst true ds, i :: r => match atI ds i with | some d => atPath d r | none => none
  | _, _ => none
def pathInts (G : Str → Option D) (L : Lcs) : List P → Option (List Int)
  | [] => some []
  | p :: r => match pur G p L, pathInts G L r with | some (.int i), some is => some (i :: is) | _, _ => none

/-- to be read at once: a pure expression's value lent -/
def rdW (V : EnvQ) (e : E) (f : Lcs → Res (D × Lcs)) (L : Lcs) : Res (D × Lcs) :=
  match e with
  | .p p => match pur V.G p L with | some d => .ok (d, L) | none => .bad
  | _ => f L
/-- a list or tuple to be read through at once -/
def seqW (V : EnvQ) (e : E) (f : Lcs → Res (D × Lcs)) (L : Lcs) : Res (D × Lcs) :=
  match e with
  | .p p => match pur V.G p L with
    | some d => match d.els with
      | some ds => if D.noOwns ds then .ok (d, L) else f L
      | none => .bad
    | none => .bad
  | _ => f L
/-- the things to be walked over: nobody changes them any more -/
def seqF (r : Res (D × Lcs)) : Res (List D × Lcs) :=
  match r with
  | .ok (d, L1) => match d.fz.els with | some ds => .ok (ds, L1) | none => .bad
  | .exn c x => .exn c x
  | .bad => .bad
def argW (m : Bool) (e : E) (f : Lcs → Res (D × Lcs)) (L : Lcs) : Res (Arg × Lcs) :=
  match m, e with
  | true, .p (.var i) => (match L[i]? with | some (some _) => .ok (Arg.io i, L) | _ => .bad)
  | true, _ => .bad
  | false, .p (.var i) => (match L[i]? with | some (some _) => .ok (Arg.bor i, L) | _ => .bad)
  | false, _ => (f L).bind fun (d, L1) => .ok (Arg.val d, L1)
def rngRun (ds : List D) : Option (List D) :=
  match ds with
  | [.int j] => if -1000000 < j ∧ j < 1000000 then some (rngD 0 j.toNat) else none
  | [.int i, .int j] => if -1000000 < i ∧ i < 1000000 ∧ -1000000 < j ∧ j < 1000000 then some (rngD i (j - i).toNat) else none
  | _ => none
def zipRun : D → D → Option (List D)
  | .lst _ xs, .lst _ ys => some (zip2D xs ys)
  | .tup xs, .tup ys => some (zip2D xs ys)
  | _, _ => none
def enumRun : D → Option (List D)
  | .lst _ xs => some (enumD 0 xs)
  | _ => none
def catRun : D → D → Option D
  | .lst _ xs, .lst _ ys => if xs.length + ys.length ≤ 1000000 then some (.lst true (xs ++ ys)) else none
  | .int i, .int j => some (.int (i + j))
  | _, _ => none
def repRun (d e : D) : Option D :=
  match d, e with
  | .lst _ ds, .int k => if D.noOwns ds && decide (ds.length * k.toNat ≤ 1000000) && decide (-1000000 ≤ k) && decide (k ≤ 1000000) then some (.lst true (List.replicate k.toNat ds).flatten) else none
  | _, _ => none

/-- a slice's ends -/
def posOf (G : Str → Option D) : Es → Lcs → Option (Option Int)
  | .nil, _ => some none
  | .cons (.p p) .nil, L => (match pur G p L with | some (.int i) => some (some i) | _ => none)
  | _, _ => none
def cutP (ds : List D) (lo hi : Option Int) : List D := (ds.drop (HT.sIx ds.length 0 lo)).take (HT.sIx ds.length ds.length hi - HT.sIx ds.length 0 lo)
def cutRun (lo hi : Option Int) : D → Option D
  | .lst _ ds => some (.lst true (cutP ds lo hi))
  | .frz ds => some (.lst true (cutP ds lo hi))
  | .tup ds => if HT.sIx ds.length 0 lo = 0 ∧ HT.sIx ds.length ds.length hi = ds.length then none else some (.tup (cutP ds lo hi))
  | _ => none
def cutO (G : Str → Option D) (lo hi : Es) (L : Lcs) (d : D) : Option D :=
  match posOf G lo L, posOf G hi L with
  | some l, some h => cutRun l h d
  | _, _ => none
/-- one thing taken out of an own list -/
def popRun (G : Str → Option D) (i : Nat) (path : List P) (j : Int) (L : Lcs) : Option (D × Lcs) :=
  match L[i]?, pathInts G L path with
  | some (some d), some is => (match atPath d is with
    | some (.lst true ds) => (match ixN ds.length j with
      | some k => (match ds[k]?, updPath (fun ds => some (ds.eraseIdx k)) d is with
        | some x, some d' => some (x, L.set i (some d'))
        | _, _ => none)
      | none => none)
    | _ => none)
  | _, _ => none
def lstAt (L : Lcs) (i : Nat) : Option Unit := match L[i]? with | some (some (.lst true _)) => some () | _ => none
def intOf : D → Option Int
  | .int i => some i
  | _ => none
def isP : E → Bool
  | .p _ => true
  | _ => false
def purE (G : Str → Option D) : E → Lcs → Option D
  | .p p, L => pur G p L
  | _, _ => none

mutual
def den (V : EnvQ) : E → Lcs → Res (D × Lcs)
  | .p p, L => keepP V.G p L
  | .mv i, L => match L[i]? with | some (some d) => .ok (d, L.set i none) | _ => .bad
  | .o1 o a, L => (rdW V a (fun L => den V a L) L).bind fun r => (Res.of (ap1 o r.1)).bind fun x => .ok (x, r.2)
  | .o2 o a b, L => (den V a L).bind fun r => (rdW V b (fun L => den V b L) r.2).bind fun q => (Res.of (ap2 o r.1 q.1)).bind fun x => .ok (x, q.2)
  | .and a b, L => (rdW V a (fun L => den V a L) L).bind fun r => (bool? r.1).bind fun k => if k then (rdW V b (fun L => den V b L) r.2).bind fun q => (bool? q.1).bind fun k2 => .ok (.bl k2, q.2) else .ok (.bl false, r.2)
  | .or a b, L => (rdW V a (fun L => den V a L) L).bind fun r => (bool? r.1).bind fun k => if k then .ok (.bl true, r.2) else (rdW V b (fun L => den V b L) r.2).bind fun q => (bool? q.1).bind fun k2 => .ok (.bl k2, q.2)
  | .ife c a b, L => (rdW V c (fun L => den V c L) L).bind fun r => (Res.of (tru r.1)).bind fun k => if k then den V a r.2 else den V b r.2
  | .tup es, L => (dens V es L).bind fun r => .ok (.tup r.1, r.2)
  | .lst es, L => (dens V es L).bind fun r => .ok (.lst true r.1, r.2)
  | .call f kw es, L => match kw with
    | [] => (args V (V.md f) es L).bind fun r => if r.1.length = (V.ar f).length then callRun V f r.1 r.2 else .bad
    | k :: ks => if V.md f = [] then (args V [] es L).bind fun r => if r.1.length = (V.ar f).length ∧ (k :: ks).length = r.1.length ∧ ((V.ar f).all fun p => decide (p ∈ k :: ks)) = true then callRun (V.kw (k :: ks)) f r.1 r.2 else .bad else .bad
  | .sq o a, L => (seqW V a (fun L => den V a L) L).bind fun r => (Res.of (apS o r.1)).bind fun x => .ok (x, r.2)
  | .lc vs tg s cs e, L => (src V s L).bind fun r =>
      (lcRun tg vs (fun L => conds V cs L) (fun L => den V e L) r.1 r.2).bind fun q => .ok (.lst true q.1, resetTo r.2 (wipeL q.2 vs) vs)
  | .cat a b, L => (den V a L).bind fun r => (den V b r.2).bind fun q => (Res.of (catRun r.1 q.1)).bind fun x => .ok (x, q.2)
  | .rep a b, L => (den V a L).bind fun r => (rdW V b (fun L => den V b L) r.2).bind fun q => (Res.of (repRun r.1 q.1)).bind fun x => .ok (x, q.2)
  | .slice a lo hi, L => (seqW V a (fun L => den V a L) L).bind fun r => (Res.of (cutO V.G lo hi r.2 r.1)).bind fun x => .ok (x, r.2)
  | .popi i path k, L => match k with
    | .nil => Res.of (popRun V.G i path (-1) L)
    | .cons e es => match path, es with
      | [], .nil => (Res.of (lstAt L i)).bind fun _ => (den V e L).bind fun r => (Res.of (intOf r.1)).bind fun j => Res.of (popRun V.G i [] j r.2)
      | p :: ps, .nil => (Res.of (purE V.G e L)).bind fun d => (Res.of (intOf d)).bind fun j => Res.of (popRun V.G i (p :: ps) j L)
      | _, _ => .bad
  | .nev, _ => .bad
def dens (V : EnvQ) : Es → Lcs → Res (List D × Lcs)
  | .nil, L => .ok ([], L)
  | .cons e es, L => (den V e L).bind fun r => (dens V es r.2).bind fun q => .ok (r.1 :: q.1, q.2)
def args (V : EnvQ) : List Bool → Es → Lcs → Res (List Arg × Lcs)
  | _, .nil, L => .ok ([], L)
  | ms, .cons e es, L => (argW (ms.headD false) e (fun L => den V e L) L).bind fun r => (args V ms.tail es r.2).bind fun q => .ok (r.1 :: q.1, q.2)
def src (V : EnvQ) : Src → Lcs → Res (List D × Lcs)
  | .e e, L => seqF (den V e L)
  | .rng es, L => (dens V es L).bind fun r => (Res.of (rngRun r.1)).bind fun x => .ok (x, r.2)
  | .zip a b, L => (den V a L).bind fun r => (den V b r.2).bind fun q => (Res.of (zipRun r.1.fz q.1.fz)).bind fun x => .ok (x, q.2)
  | .enum e, L => (den V e L).bind fun r => (Res.of (enumRun r.1.fz)).bind fun x => .ok (x, r.2)
def conds (V : EnvQ) : Es → Lcs → Res (Bool × Lcs)
  | .nil, L => .ok (true, L)
  | .cons e es, L => match es with
    | .nil => (rdW V e (fun L => den V e L) L).bind fun r => (Res.of (tru r.1)).bind fun b => .ok (b, r.2)
    | _ => .bad
end
/-! ### the equations -/
section
variable (V : EnvQ) (L : Lcs)
theorem rdW_p (p : P) (f : Lcs → Res (D × Lcs)) : rdW V (.p p) f L = match pur V.G p L with | some d => .ok (d, L) | none => .bad := rfl
theorem den_p (p : P) : den V (.p p) L = keepP V.G p L := by rw [den]
theorem den_mv (i : Nat) : den V (.mv i) L = match L[i]? with | some (some d) => .ok (d, L.set i none) | _ => .bad := by rw [den]
theorem den_o1 (o : O1) (a : E) : den V (.o1 o a) L = (rdW V a (fun L => den V a L) L).bind fun r => (Res.of (ap1 o r.1)).bind fun x => .ok (x, r.2) := by rw [den]
theorem den_o2 (o : O2) (a b : E) : den V (.o2 o a b) L = (den V a L).bind fun r => (rdW V b (fun L => den V b L) r.2).bind fun q => (Res.of (ap2 o r.1 q.1)).bind fun x => .ok (x, q.2) := by rw [den]
theorem den_and (a b : E) : den V (.and a b) L = (rdW V a (fun L => den V a L) L).bind fun r => (bool? r.1).bind fun k => if k then (rdW V b (fun L => den V b L) r.2).bind fun q => (bool? q.1).bind fun k2 => .ok (.bl k2, q.2) else .ok (.bl false, r.2) := by rw [den]
theorem den_or (a b : E) : den V (.or a b) L = (rdW V a (fun L => den V a L) L).bind fun r => (bool? r.1).bind fun k => if k then .ok (.bl true, r.2) else (rdW V b (fun L => den V b L) r.2).bind fun q => (bool? q.1).bind fun k2 => .ok (.bl k2, q.2) := by rw [den]
theorem den_ife (c a b : E) : den V (.ife c a b) L = (rdW V c (fun L => den V c L) L).bind fun r => (Res.of (tru r.1)).bind fun k => if k then den V a r.2 else den V b r.2 := by rw [den]
theorem den_tup (es : Es) : den V (.tup es) L = (dens V es L).bind fun r => .ok (.tup r.1, r.2) := by rw [den]
theorem den_lst (es : Es) : den V (.lst es) L = (dens V es L).bind fun r => .ok (.lst true r.1, r.2) := by rw [den]
theorem den_call (f : Str) (es : Es) : den V (.call f [] es) L = (args V (V.md f) es L).bind fun r => if r.1.length = (V.ar f).length then callRun V f r.1 r.2 else .bad := by rw [den]
theorem den_callK (f : Str) (k : Str) (ks : List Str) (es : Es) : den V (.call f (k :: ks) es) L = if V.md f = [] then (args V [] es L).bind fun r => if r.1.length = (V.ar f).length ∧ (k :: ks).length = r.1.length ∧ ((V.ar f).all fun p => decide (p ∈ k :: ks)) = true then callRun (V.kw (k :: ks)) f r.1 r.2 else .bad else .bad := by rw [den]
theorem den_sq (o : SqO) (a : E) : den V (.sq o a) L = (seqW V a (fun L => den V a L) L).bind fun r => (Res.of (apS o r.1)).bind fun x => .ok (x, r.2) := by rw [den]
theorem den_lc (vs : List Nat) (tg : Tg) (s : Src) (cs : Es) (e : E) : den V (.lc vs tg s cs e) L = (src V s L).bind fun r =>
      (lcRun tg vs (fun L => conds V cs L) (fun L => den V e L) r.1 r.2).bind fun q => .ok (.lst true q.1, resetTo r.2 (wipeL q.2 vs) vs) := by rw [den]
theorem den_cat (a b : E) : den V (.cat a b) L = (den V a L).bind fun r => (den V b r.2).bind fun q => (Res.of (catRun r.1 q.1)).bind fun x => .ok (x, q.2) := by rw [den]
theorem den_rep (a b : E) : den V (.rep a b) L = (den V a L).bind fun r => (rdW V b (fun L => den V b L) r.2).bind fun q => (Res.of (repRun r.1 q.1)).bind fun x => .ok (x, q.2) := by rw [den]
theorem den_slice (a : E) (lo hi : Es) : den V (.slice a lo hi) L = (seqW V a (fun L => den V a L) L).bind fun r => (Res.of (cutO V.G lo hi r.2 r.1)).bind fun x => .ok (x, r.2) := by rw [den]
theorem den_pop0 (i : Nat) (path : List P) : den V (.popi i path .nil) L = Res.of (popRun V.G i path (-1) L) := by rw [den]
theorem den_pop1 (i : Nat) (e : E) : den V (.popi i [] (.cons e .nil)) L = (Res.of (lstAt L i)).bind fun _ => (den V e L).bind fun r => (Res.of (intOf r.1)).bind fun j => Res.of (popRun V.G i [] j r.2) := by rw [den]
theorem den_pop2 (i : Nat) (p : P) (ps : List P) (e : E) : den V (.popi i (p :: ps) (.cons e .nil)) L = (Res.of (purE V.G e L)).bind fun d => (Res.of (intOf d)).bind fun j => Res.of (popRun V.G i (p :: ps) j L) := by rw [den]
theorem den_nev : den V .nev L = .bad := by rw [den]
theorem dens_nil : dens V .nil L = .ok ([], L) := by rw [dens]
theorem dens_cons (e : E) (es : Es) : dens V (.cons e es) L = (den V e L).bind fun r => (dens V es r.2).bind fun q => .ok (r.1 :: q.1, q.2) := by rw [dens]
theorem args_nil (ms : List Bool) : args V ms .nil L = .ok ([], L) := by rw [args]
theorem args_cons (ms : List Bool) (e : E) (es : Es) : args V ms (.cons e es) L = (argW (ms.headD false) e (fun L => den V e L) L).bind fun r => (args V ms.tail es r.2).bind fun q => .ok (r.1 :: q.1, q.2) := by rw [args]
theorem src_e (e : E) : src V (.e e) L = seqF (den V e L) := by rw [src]
theorem src_rng (es : Es) : src V (.rng es) L = (dens V es L).bind fun r => (Res.of (rngRun r.1)).bind fun x => .ok (x, r.2) := by rw [src]
theorem src_zip (a b : E) : src V (.zip a b) L = (den V a L).bind fun r => (den V b r.2).bind fun q => (Res.of (zipRun r.1.fz q.1.fz)).bind fun x => .ok (x, q.2) := by rw [src]
theorem src_enum (e : E) : src V (.enum e) L = (den V e L).bind fun r => (Res.of (enumRun r.1.fz)).bind fun x => .ok (x, r.2) := by rw [src]
theorem conds_nil : conds V .nil L = .ok (true, L) := by rw [conds]
theorem conds_one (e : E) : conds V (.cons e .nil) L = (rdW V e (fun L => den V e L) L).bind fun r => (Res.of (tru r.1)).bind fun b => .ok (b, r.2) := by rw [conds]
end
end Q

namespace Q
open PySem L2 PySem.Spec

/-! ## the weakest readings -/
def tW (X : Cx) (e : Expr) : TE := fun σ H Q => ∀ pins s, Inv X pins σ H s → wpAny (model X.prog X.w) X.A (eval e X.env) (EP X pins σ Q) X.xe s
def ttW (X : Cx) (e : Expr) : TT := fun σ H Q => ∀ pins s, Inv X pins σ H s → wpAny (model X.prog X.w) X.A (isTrue e X.env (eval e X.env)) (TP X pins σ Q) X.xe s
def taW (X : Cx) (es : List Expr) : TA := fun σ H Q => ∀ pos pins s, Inv X pins σ H s → wpAny (model X.prog X.w) X.A (spliced (backTo pos (starEach es X.env))) (AP X pins σ Q) X.xe s
theorem peW {X : Cx} {e : Expr} : PE X e (tW X e) := ⟨fun pins s σ H Q I h => h pins s I⟩
theorem ptW {X : Cx} {e : Expr} : PT X e (ttW X e) := ⟨fun pins s σ H Q I h => h pins s I⟩
theorem paW {X : Cx} {es : List Expr} : PA X es (taW X es) := ⟨fun pos pins s σ H Q I h => h pos pins s I⟩
theorem toW {X : Cx} {e : Expr} {t : TE} (h : PE X e t) {σ : St} {H : Hp} {Q : VK} (q : t σ H Q) : tW X e σ H Q := fun pins s I => h.run pins s σ H Q I q
theorem toTW {X : Cx} {e : Expr} {t : TT} (h : PT X e t) {σ : St} {H : Hp} {Q : Bool → Hp → Prop} (q : t σ H Q) : ttW X e σ H Q := fun pins s I => h.run pins s σ H Q I q
theorem toAW {X : Cx} {es : List Expr} {t : TA} (h : PA X es t) {σ : St} {H : Hp} {Q : List V → Hp → Prop} (q : t σ H Q) : taW X es σ H Q := fun pos pins s I => h.run pos pins s σ H Q I q
theorem tW.mono {X : Cx} {e : Expr} {σ : St} {H : Hp} {Q Q' : VK} (h : tW X e σ H Q) (m : ∀ v H, Q v H → Q' v H) : tW X e σ H Q' := fun pins s I =>
  thn (h pins s I) fun _ _ ⟨v, H', I', r, q⟩ => ⟨v, H', I', r, m _ _ q⟩
theorem ttW.mono {X : Cx} {e : Expr} {σ : St} {H : Hp} {Q Q' : Bool → Hp → Prop} (h : ttW X e σ H Q) (m : ∀ v H, Q v H → Q' v H) : ttW X e σ H Q' := fun pins s I =>
  thn (h pins s I) fun _ _ ⟨H', I', q⟩ => ⟨H', I', m _ _ q⟩
theorem taW.mono {X : Cx} {es : List Expr} {σ : St} {H : Hp} {Q Q' : List V → Hp → Prop} (h : taW X es σ H Q) (m : ∀ v H, Q v H → Q' v H) : taW X es σ H Q' := fun pos pins s I =>
  thn (h pos pins s I) fun _ _ ⟨v, H', I', r, q⟩ => ⟨v, H', I', r, m _ _ q⟩

/-! ## the context -/
structure Gam where
  N : List Str
  sn : List (Str × NameKind)
  wr : List Str
  fs : List Str
  bs : List Str
  gs : List Str
  ks : List (Str × List Str)

/-- how an exception lies: its class by its global name, the one field -/
def ExOk (K : PySem.W.Frag) (mg : Str → Option Value) (H : Hp) (F : Addr → Prop) (c : Str) (x : D) (cls : Value) (d : Option Addr) : Prop :=
  ∃ (C dx : Addr) (fld : Str) (v : V), mg c = some (.ref C) ∧ cls = .ref C ∧ d = some dx ∧ H dx = some (.xd [(fld, v)]) ∧ Reps K H F [x] [v] []

def ioPick {α : Type} : List Bool → List α → List α
  | true :: ms, a :: as => a :: ioPick ms as
  | false :: ms, _ :: as => ioPick ms as
  | _, _ => []
def ioNone : List Bool → List D → Bool
  | true :: ms, _ :: as => ioNone ms as
  | false :: ms, a :: as => a.noOwn && ioNone ms as
  | [], as => D.noOwns as
  | _, [] => true
inductive OReps (K : PySem.W.Frag) (H : Hp) (F : Addr → Prop) : List (Option D) → List V → List Addr → Prop
  | nil : OReps K H F [] [] []
  | skip {os vs W v} : OReps K H F os vs W → OReps K H F (none :: os) (v :: vs) W
  | cons {d v os vs W1 W2} : Reps K H F [d] [v] W1 → OReps K H F os vs W2 → OReps K H F (some d :: os) (v :: vs) (W1 ++ W2)

/-- a def's promise: it does what Z.call says -/
def SpF (K : PySem.W.Frag) (mg : Str → Option Value) (Z : EnvQ) (f : Str) : Sp := fun vs H Q E => ∃ (ds : List D) (F : Addr → Prop) (W : List Addr),
  vs.length = (Z.ar f).length ∧ Reps K H F ds vs W ∧ Wf H F W ∧ ioNone (Z.md f) ds = true ∧
  match Z.call f ds with
  | .ok (d, os) => ∀ v H' F' W1 W2, Reps K H' F' [d] [v] W1 → OReps K H' F' os (ioPick (Z.md f) vs) W2 → Wf H' F' (W1 ++ W2) → Ext H F W H' F' (W1 ++ W2) → Q v H'
  | .exn c x => ∀ cls d H' F', ExOk K mg H' F' c x cls d → Ext H F W H' F' [] → E cls d H'
  | .bad => False

structure CallOk (X : Cx) (Z : EnvQ) (EX : XK) (kl : List (Str × List Str)) (f : Str) : Prop where
  ex : ∃ (a : Addr) (fd : FuncData) (k : Nat), X.mg f = some (.ref a) ∧ PySem.W.keepIn X.K (.ref a) = true ∧
    FnOk X.prog X.w X.K X.mg X.base (L2.CX X.prog X.w) k a fd (Z.ar f) (SpF X.K X.mg Z f) ∧ Room k X.A ∧ L2.Binds X.K fd (Z.ar f) [] ∧
    ∀ ks, (f, ks) ∈ kl → KBn X.K fd (Z.ar f) 0 ks (fun us ws => permL (idxK ks (Z.ar f)) (us ++ ws)) (fun us ws => permL (idxK ks (Z.ar f)) (us ++ ws))
  pass : Passes (L2.CX X.prog X.w) X EX
  ne : f ≠ "__debug__"

structure Good (X : Cx) (Z : EnvQ) (Γ : Gam) (EX : XK) : Prop where
  calm : X.calm = true
  kind : X.env.scope.kind = .function
  N : X.N = Γ.N
  nd : Γ.N.Nodup
  sn : X.env.scope.names = Γ.sn
  wr : ∀ x ∈ Γ.wr, Loc X.env.scope x ∧ (X.fn x = true ∨ X.env.scope.names.lookup x = some .local)
  bs : ∀ x ∈ Γ.bs, X.mg x = none
  gs : ∀ x ∈ Γ.gs, ∀ d, Z.G x = some d → ∃ v u, X.mg x = some u ∧ RelV v u ∧ ∀ H F, Reps X.K H F [d] [v] []
  un : X.A.units + 64 < cLine
  ca : ∀ f ∈ Γ.fs, CallOk X Z EX Γ.ks f

/-! ## the checks of the text -/
def notStar : Expr → Bool
  | .Starred .. => false
  | _ => true
theorem starEach_of {e : Expr} {es : List Expr} {env : PySem.Env} (h : notStar e = true) : starEach (e :: es) env = (false, eval e env) :: starEach es env := by
  cases e <;> first | rfl | (simp [notStar] at h)
def plainOf : List Expr → Bool
  | [] => true
  | e :: es => notStar e && plainOf es
theorem plain_any {env : PySem.Env} {pos : Pos} : ∀ {es : List Expr}, plainOf es = true → (backTo pos (starEach es env)).any (·.1) = false
  | [], _ => rfl
  | e :: es, h => by
    simp only [plainOf, Bool.and_eq_true] at h
    rw [starEach_of h.1]
    have ih := plain_any (env := env) (pos := pos) h.2
    show ((false || (backTo pos (starEach es env)).any (·.1))) = false
    rw [ih]; rfl

def varOk (Γ : Gam) (i : Nat) (x : Str) : Bool :=
  decide (Γ.N[i]? = some x) && (decide (Γ.sn.lookup x = some .local) || decide (Γ.sn.lookup x = some .cell) || decide (Γ.sn.lookup x = some .free)) && !(x == ("__debug__" : Str)) && !(x == ("__classdict__" : Str))
def glOk (Γ : Gam) (x : Str) : Bool := decide (Γ.sn.lookup x = some .globalImplicit) && !(x == ("__debug__" : Str)) && !(x == ("__name__" : Str))
def bltOk (Γ : Gam) (x : Str) (e : Expr) : Bool := match e with
  | .Name y _ => decide (y = x) && glOk Γ x && decide (x ∈ Γ.bs)
  | _ => false

section
variable {X : Cx} {Z : EnvQ} {Γ : Gam} {EX : XK}
theorem Good.gl (G : Good X Z Γ EX) {x : Str} (h : glOk Γ x = true) : Gl X x ∧ (x == ("__debug__" : Str)) = false ∧ x ≠ "__name__" := by
  simp only [glOk, Bool.and_eq_true, decide_eq_true_eq, Bool.not_eq_true'] at h
  refine ⟨?_, h.1.2, fun z => ?_⟩
  · show X.env.scope.names.lookup x = _
    rw [G.sn]; exact h.1.1
  · rw [z] at h; exact absurd h.2 (by decide)
theorem Good.blt (G : Good X Z Γ EX) {x : Str} {e : Expr} (h : bltOk Γ x e = true) : ∃ p, e = .Name x p ∧ Gl X x ∧ (x == ("__debug__" : Str)) = false ∧ x ≠ "__name__" ∧ X.mg x = none := by
  cases e <;> simp only [bltOk, Bool.and_eq_true, decide_eq_true_eq, Bool.false_eq_true] at h
  obtain ⟨⟨rfl, h2⟩, h3⟩ := h
  obtain ⟨a, b, c⟩ := G.gl h2
  exact ⟨_, rfl, a, b, c, G.bs _ h3⟩
theorem Good.var (G : Good X Z Γ EX) {i : Nat} {x : Str} {pos : Pos} (h : varOk Γ i x = true) : PE X (.Name x pos) (tVar i) := by
  simp only [varOk, Bool.and_eq_true, Bool.or_eq_true, decide_eq_true_eq, Bool.not_eq_true'] at h
  obtain ⟨⟨⟨h1, h2⟩, h3⟩, h4⟩ := h
  refine pe_var (by rw [G.N]; exact h1) ?_ h3 h4
  rcases h2 with (h2 | h2) | h2
  · exact .inl (by rw [G.sn]; exact h2)
  · exact .inr (.inl (by rw [G.sn]; exact h2))
  · exact .inr (.inr (by rw [G.sn]; exact h2))
end

/-- all that was tracked is as it was -/
abbrev KA (H H' : Hp) : Prop := ∀ a o, H a = some o → H' a = some o
theorem KA.refl (H : Hp) : KA H H := fun _ _ h => h
theorem KA.trans {H H1 H2 : Hp} (a : KA H H1) (b : KA H1 H2) : KA H H2 := fun c o h => b c o (a c o h)
theorem KA.new {H : Hp} {p : Addr} {o : HO} (h : H p = none) : KA H (upd H p o) := fun a u e => by rw [upd_ne (ne_of_none e h)]; exact e
theorem KA.reps {K : PySem.W.Frag} {H H' : Hp} {F : Addr → Prop} {ds : List D} {vs : List V} {W : List Addr} (k : KA H H') (r : Reps K H F ds vs W) : Reps K H' F ds vs W :=
  r.frame (B := []) (fun a o h _ => k a o h) (fun a m => nomatch m) (fun a _ m => nomatch m) (fun a _ m => nomatch m) fun _ h => h
theorem KA.lreps {K : PySem.W.Frag} {H H' : Hp} {F : Addr → Prop} {L : Lcs} {σ : St} {ws : List (List Addr)} (k : KA H H') (r : LReps K H F L σ ws) : LReps K H' F L σ ws :=
  r.frame (B := []) (fun a o h _ => k a o h) (fun a m => nomatch m) (fun a _ m => nomatch m) (fun a _ m => nomatch m) fun _ h => h
theorem KA.wf {H H' : Hp} {F : Addr → Prop} {W : List Addr} (k : KA H H') (w : Wf H F W) : Wf H' F W := ⟨w.nd, w.dj, fun a f => by
  have := w.tr a f
  cases q : H a with
  | none => exact absurd q this
  | some o => rw [k a o q]; exact fun z => nomatch z⟩
theorem KA.ext {H H' : Hp} {F : Addr → Prop} {W : List Addr} (k : KA H H') : Ext H F W H' F W := ⟨fun a o h _ => k a o h, fun _ h => .inl h, fun _ h => h, fun _ h => .inl h, fun a h => by
  cases q : H a with
  | none => exact absurd q h
  | some o => rw [k a o q]; exact fun z => nomatch z⟩

/-! ## what a representation tells of the value -/
section
variable {K : PySem.W.Frag} {H : Hp} {F : Addr → Prop} {v : V} {W : List Addr}
theorem Reps.intI {i : Int} (r : Reps K H F [.int i] [v] W) : v = .int i := by cases r; rfl
theorem Reps.blI {b : Bool} (r : Reps K H F [.bl b] [v] W) : v = .bl b := by cases r; rfl
theorem Reps.nonI (r : Reps K H F [.non] [v] W) : v = .non := by cases r; rfl
theorem Reps.strI {s : Str} (r : Reps K H F [.str s] [v] W) : v = .str s := by cases r; rfl
theorem Reps.tupI {ds : List D} (r : Reps K H F [.tup ds] [v] W) : ∃ a us, v = .ref a ∧ SqT K H a us ∧ Reps K H F ds us W := by
  cases r with
  | tup s r1 r2 => cases r2; exact ⟨_, _, rfl, s, by simpa using r1⟩
theorem Reps.lstI {b : Bool} {ds : List D} (r : Reps K H F [.lst b ds] [v] W) : ∃ a us W1, v = .ref a ∧ H a = some (.lst us) ∧ Reps K H F ds us W1 ∧ W1.Sublist W ∧ (b = true → W = a :: W1) ∧ (b = false → W1 = [] ∧ F a) := by
  cases r with
  | sh f s r1 r2 => cases r2; exact ⟨_, _, [], rfl, s, r1, List.nil_sublist _, fun z => (nomatch z), fun _ => ⟨rfl, f⟩⟩
  | own s r1 r2 =>
    cases r2
    refine ⟨_, _, _, rfl, s, by simpa using r1, ?_, fun _ => rfl, fun z => nomatch z⟩
    exact List.sublist_cons_self ..
theorem Reps.frzI {ds : List D} (r : Reps K H F [.frz ds] [v] W) : ∃ a us, v = .ref a ∧ FrzOk K H F a us ∧ Reps K H F ds us [] := by
  cases r with
  | frz f r1 r2 => cases r2; exact ⟨_, _, rfl, f, r1⟩
/-- a list or a tuple, opened -/
theorem Reps.els {d : D} {ds : List D} (r : Reps K H F [d] [v] W) (h : d.els = some ds) : ∃ a us W1, v = .ref a ∧ (SqL K H a us ∨ SqT K H a us) ∧ Reps K H F ds us W1 ∧ W1.Sublist W := by
  cases d <;> simp only [D.els, Option.some.injEq, reduceCtorEq] at h
  · subst h; obtain ⟨a, us, e, s, r1⟩ := r.tupI; exact ⟨a, us, W, e, .inr s, r1, List.Sublist.refl _⟩
  · subst h; obtain ⟨a, us, W1, e, s, r1, sb, _⟩ := r.lstI; exact ⟨a, us, W1, e, .inl (SqL.of s), r1, sb⟩
  · subst h; obtain ⟨a, us, e, s, r1⟩ := r.frzI; exact ⟨a, us, [], e, .inl s.sq, r1, List.nil_sublist _⟩
theorem Reps.isEmpty {ds : List D} {vs : List V} (r : Reps K H F ds vs W) : vs.isEmpty = ds.isEmpty := by cases r <;> rfl
theorem tru_of {d : D} {k : Bool} (r : Reps K H F [d] [v] W) (h : tru d = some k) : TruV K v H k := by
  cases d <;> simp only [tru, Option.some.injEq, reduceCtorEq] at h
  · subst h; rw [r.nonI]; rfl
  · subst h; rw [r.blI]; rfl
  · subst h; rw [r.intI]; rfl
  · subst h; obtain ⟨a, us, e, s, r1⟩ := r.tupI; subst e; exact .inr (.inl ⟨us, s, by rw [r1.isEmpty]⟩)
  · subst h; obtain ⟨a, us, W1, e, s, r1, _⟩ := r.lstI; subst e; exact .inl ⟨us, SqL.of s, by rw [r1.isEmpty]⟩
  · subst h; obtain ⟨a, us, e, s, r1⟩ := r.frzI; subst e; exact .inl ⟨us, s.sq, by rw [r1.isEmpty]⟩
end
end Q

namespace Q
open PySem L2 PySem.Spec

/-! ## the operators -/
/-- a call of a built-in with one, two arguments -/
def callB1 (Γ : Gam) (x : Str) : Expr → Option Expr
  | .Call f [a] [] _ => if bltOk Γ x f && notStar a then some a else none
  | _ => none
def callB2 (Γ : Gam) (x : Str) : Expr → Option (Expr × Expr)
  | .Call f [a, b] [] _ => if bltOk Γ x f && notStar a && notStar b then some (a, b) else none
  | _ => none

def tyName (Γ : Gam) (t : String) (e : Expr) : Bool := bltOk Γ (Str.ofString t) e && tyOk t && decide (bootBuiltins (Str.ofString t) = some (.type t))
def tyNames (Γ : Gam) : List String → List Expr → Bool
  | [], [] => true
  | t :: ts, e :: es => tyName Γ t e && notStar e && tyNames Γ ts es
  | _, _ => false

def noneCmp (op : CmpOp) : Expr → Option Expr
  | .Compare a [o] [.Constant .none _ _] _ => if o = op then some a else none
  | _ => none
theorem noneCmp_out {op : CmpOp} {e a : Expr} (h : noneCmp op e = some a) : ∃ j p pos, e = .Compare a [op] [.Constant .none j p] pos := by
  unfold noneCmp at h
  split at h
  · split at h
    · rename_i q; cases h; subst q; exact ⟨_, _, _, rfl⟩
    · cases h
  · cases h
def notSet : Expr → Bool
  | .Set .. => false
  | _ => true
theorem noMark {op : CmpOp} {b : Expr} (h : notSet b = true) : behindInMarks op b = false := by
  cases b <;> first | rfl | (simp [notSet] at h)
section
variable {K : PySem.W.Frag} {H : Hp} {F : Addr → Prop} {W : List Addr}
theorem Reps.dps {ds : List D} {us : List V} (r : Reps K H F ds us W) : ∀ {ps : List PyData}, D.toPys ds = some ps → DpAll K H us ps := by
  induction r with
  | nil => intro ps h; simp [D.toPys] at h; subst h; exact .nil
  | non _ ih | bl _ ih | int _ ih | str _ ih =>
    intro ps h
    simp only [D.toPys, D.toPy] at h
    split at h
    · rename_i p ps' h1 h2
      simp only [Option.some.injEq] at h h1
      subst h h1
      refine .cons ?_ (ih h2)
      constructor
    · cases h
  | tup s _ _ i1 i2 =>
    intro ps h
    simp only [D.toPys, D.toPy] at h
    split at h
    · rename_i p ps' h1 h2
      split at h1
      · rename_i qs h3
        simp only [Option.some.injEq] at h h1
        subst h h1
        exact .cons (.tup s (i1 h3)) (i2 h2)
      · cases h1
    · cases h
  | sh f s _ _ i1 i2 =>
    intro ps h
    simp only [D.toPys, D.toPy] at h
    split at h
    · rename_i p ps' h1 h2
      split at h1
      · rename_i qs h3
        simp only [Option.some.injEq] at h h1
        subst h h1
        exact .cons (.lst (SqL.of s) (i1 h3)) (i2 h2)
      · cases h1
    · cases h
  | own s _ _ i1 i2 =>
    intro ps h
    simp only [D.toPys, D.toPy] at h
    split at h
    · rename_i p ps' h1 h2
      split at h1
      · rename_i qs h3
        simp only [Option.some.injEq] at h h1
        subst h h1
        exact .cons (.lst (SqL.of s) (i1 h3)) (i2 h2)
      · cases h1
    · cases h
  | dsh f s e _ _ i1 i2 => intro ps h; simp [D.toPys, D.toPy] at h
  | down s e _ _ i1 i2 => intro ps h; simp [D.toPys, D.toPy] at h
  | frz f _ _ i1 i2 =>
    intro ps h
    simp only [D.toPys, D.toPy] at h
    split at h
    · rename_i p ps' h1 h2
      split at h1
      · rename_i qs h3
        simp only [Option.some.injEq] at h h1
        subst h h1
        exact .cons (.lst f.sq (i1 h3)) (i2 h2)
      · cases h1
    · cases h
theorem Reps.dp {d : D} {v : V} {p : PyData} (r : Reps K H F [d] [v] W) (h : d.toPy = some p) : Dp K H v p := by
  have := r.dps (ps := [p]) (by simp [D.toPys, h])
  cases this with
  | cons a _ => exact a
theorem eqD_dp {d e : D} {v u : V} {W1 W2 : List Addr} {F2 : Addr → Prop} {b : Bool} (r : Reps K H F [d] [v] W1) (r2 : Reps K H F2 [e] [u] W2) (h : eqD d e = some b) :
    ∃ p q, Dp K H v p ∧ Dp K H u q ∧ SeqAt.shaped p = true ∧ SeqAt.shaped q = true ∧ b = PyData.eqv p q := by
  have gen : (match d.toPy, e.toPy with
    | some p, some q => if SeqAt.shaped p && SeqAt.shaped q then some (PyData.eqv p q) else none
    | _, _ => none) = some b → ∃ p q, Dp K H v p ∧ Dp K H u q ∧ SeqAt.shaped p = true ∧ SeqAt.shaped q = true ∧ b = PyData.eqv p q := by
    intro h
    split at h
    · rename_i p q h1 h2
      split at h
      · rename_i hs
        simp only [Bool.and_eq_true] at hs
        simp only [Option.some.injEq] at h
        exact ⟨p, q, r.dp h1, r2.dp h2, hs.1, hs.2, h.symm⟩
      · cases h
    · cases h
  unfold eqD at h
  split at h
  · rename_i i j
    simp only [Option.some.injEq] at h
    rw [r.intI, r2.intI]
    refine ⟨.int i, .int j, .int i, .int j, by rfl, by rfl, ?_⟩
    subst h
    simp [PyData.eqv]
    by_cases e : i = j <;> simp [e]
  · exact gen h

end
def empCmp (op : CmpOp) : Expr → Option Expr
  | .Compare a [o] [.List [] _] _ => if o = op then some a else none
  | _ => none
theorem empCmp_out {op : CmpOp} {e a : Expr} (h : empCmp op e = some a) : ∃ p pos, e = .Compare a [op] [.List [] p] pos := by
  unfold empCmp at h
  split at h
  · split at h
    · rename_i q; cases h; subst q; exact ⟨_, _, rfl⟩
    · cases h
  · cases h
def ast1 (Γ : Gam) : O1 → Expr → Option Expr
  | .neg, .UnaryOp .USub a _ => some a
  | .not, .UnaryOp .Not a _ => some a
  | .len, e => callB1 Γ "len" e
  | .abs, e => callB1 Γ "abs" e
  | .int1, e => callB1 Γ "int" e
  | .isi ts, e => match callB2 Γ "isinstance" e with
    | some (a, .Tuple es _ _) => if tyNames Γ ts es && decide (ts.length ≤ 100) then some a else none
    | some (a, b) => match ts with | [t] => if tyName Γ t b then some a else none | _ => none
    | none => none
  | .isN, e => noneCmp .Is e
  | .ntN, e => noneCmp .IsNot e
  | .eqE, e => empCmp .Eq e
  | .neE, e => empCmp .NotEq e
  | _, _ => none

section
variable {X : Cx} {Z : EnvQ} {Γ : Gam} {EX : XK} {K : PySem.W.Frag} {H : Hp} {F : Addr → Prop}

theorem callB1_out {x : Str} {e a : Expr} (h : callB1 Γ x e = some a) : ∃ f pos, e = .Call f [a] [] pos ∧ bltOk Γ x f = true ∧ notStar a = true := by
  unfold callB1 at h
  split at h
  · split at h
    · rename_i q
      simp only [Bool.and_eq_true] at q
      cases h
      exact ⟨_, _, rfl, q.1, q.2⟩
    · cases h
  · cases h
theorem callB2_out {x : Str} {e a b : Expr} (h : callB2 Γ x e = some (a, b)) : ∃ f pos, e = .Call f [a, b] [] pos ∧ bltOk Γ x f = true ∧ notStar a = true ∧ notStar b = true := by
  unfold callB2 at h
  split at h
  · split at h
    · rename_i q
      simp only [Bool.and_eq_true] at q
      cases h
      exact ⟨_, _, rfl, q.1.1, q.1.2, q.2⟩
    · cases h
  · cases h

/-- a built-in function of one argument -/
theorem b1 (G : Good X Z Γ EX) {x : Str} {id : String} {e a : Expr} {r : List V → Hp → VK → Prop} (h : callB1 Γ x e = some a) (hc : CallR X (.builtin id) r) (hv : bootBuiltins x = some (.builtin id))
    {σ : L2.St} {H : Hp} {Q : VK} (q : tW X a σ H fun v H1 => r [v] H1 Q) : tW X e σ H Q := by
  obtain ⟨f, pos, rfl, hb, ns⟩ := callB1_out h
  obtain ⟨p, rfl, hg, hd, hn, hm⟩ := G.blt hb
  exact toW (pe_callB hc hg hm hv (pa_cons peW pa_nil (starEach_of ns)) hn hd (starEach_of ns) rfl) (show tCB r (tCons (tW X a) tNil) σ H Q from q)
theorem ty1 (G : Good X Z Γ EX) {x : Str} {id : String} {e a : Expr} {r : List V → Hp → VK → Prop} (h : callB1 Γ x e = some a) (hc : CallR X (.type id) r) (hv : bootBuiltins x = some (.type id))
    {σ : L2.St} {H : Hp} {Q : VK} (q : tW X a σ H fun v H1 => r [v] H1 Q) : tW X e σ H Q := by
  obtain ⟨f, pos, rfl, hb, ns⟩ := callB1_out h
  obtain ⟨p, rfl, hg, hd, hn, hm⟩ := G.blt hb
  exact toW (pe_callTy hc hg hm hv (pa_cons peW pa_nil (starEach_of ns)) hn hd (starEach_of ns) rfl) (show tCB r (tCons (tW X a) tNil) σ H Q from q)
theorem b2 (G : Good X Z Γ EX) {x : Str} {id : String} {e a b : Expr} {r : List V → Hp → VK → Prop} (h : callB2 Γ x e = some (a, b)) (hc : CallR X (.builtin id) r) (hv : bootBuiltins x = some (.builtin id))
    {σ : L2.St} {H : Hp} {Q : VK} (q : tW X a σ H fun v H1 => tW X b σ H1 fun u H2 => r [v, u] H2 Q) : tW X e σ H Q := by
  obtain ⟨f, pos, rfl, hb, ns, ns2⟩ := callB2_out h
  obtain ⟨p, rfl, hg, hd, hn, hm⟩ := G.blt hb
  refine toW (pe_callB hc hg hm hv (pa_cons peW (pa_cons peW pa_nil (starEach_of ns2)) (starEach_of ns)) hn hd (starEach_of ns) (plain_any (es := [b]) (by simp [plainOf, ns2]))) ?_
  exact (show tCB r (tCons (tW X a) (tCons (tW X b) tNil)) σ H Q from q)

/-- the type of a value -/
def tyStr : D → String
  | .non => "NoneType" | .bl _ => "bool" | .int _ => "int" | .str _ => "str" | .tup _ => "tuple" | .lst _ _ => "list" | .frz _ => "list" | .dic .. => "dict"
theorem kit_of_ty {d : D} {t : String} (h : tyOk t = true) : kitB (tyStr d) t = some (d.isT t) := by
  simp only [tyOk, Bool.or_eq_true, beq_iff_eq] at h
  rcases h with ((((rfl | rfl) | rfl) | rfl) | rfl) | rfl <;> cases d <;> (simp only [tyStr, D.isT]; decide +kernel)
theorem Reps.ty {d : D} {v : V} {W : List Addr} (r : Reps K H F [d] [v] W) : TyX K H v (.type (tyStr d)) := by
  cases d with
  | non => rw [r.nonI]; exact .base .non
  | bl b => rw [r.blI]; exact .base (.bl b)
  | int i => rw [r.intI]; exact .base (.int i)
  | str s => rw [r.strI]; exact .base (.str s)
  | tup ds =>
    obtain ⟨a, us, e, s, _⟩ := r.tupI
    subst e
    rcases s with (s | ⟨o, s⟩) | ⟨o, its, n, hk, hc, _⟩
    · exact .base (.tup s)
    · exact .fTuple s
    · exact .kTuple hk hc
  | lst b ds => obtain ⟨a, us, _, e, s, _⟩ := r.lstI; subst e; exact .base (.lst s)
  | frz ds =>
    obtain ⟨a, us, e, s, _⟩ := r.frzI
    subst e
    rcases s with ⟨s | ⟨o, s⟩, _⟩ | ⟨o, its, n, hk, hc, _⟩
    · exact .base (.lst s)
    · exact .base (.frz s)
    · exact .kList hk hc
  | dic b ks ds =>
    cases r with
    | dsh f s e r1 r2 => exact .base (.dK s)
    | down s e r1 r2 => exact .base (.dK s)
theorem kitAny_of {d : D} : ∀ {ts : List String}, (∀ t ∈ ts, tyOk t = true) → PySem.W.kitAny K (.type (tyStr d)) (ts.map Value.type) = some (ts.any d.isT)
  | [], _ => rfl
  | t :: ts, h => by
    have h1 : PySem.W.kitOne K (.type (tyStr d)) (.type t) = some (d.isT t) := kit_ty (kit_of_ty (h t List.mem_cons_self))
    refine kitAny_cons h1 (fun hb => ?_) (fun hb => ?_)
    · rw [kitAny_of (fun t m => h t (List.mem_cons_of_mem _ m))]
      simp [List.any_cons, hb]
    · simp [List.any_cons, hb]

theorem tyName_pe (G : Good X Z Γ EX) {t : String} {e : Expr} (h : tyName Γ t e = true) : PE X e (tC (.ty t)) ∧ tyOk t = true := by
  simp only [tyName, Bool.and_eq_true, decide_eq_true_eq] at h
  obtain ⟨⟨h1, h2⟩, h3⟩ := h
  obtain ⟨p, rfl, hg, hd, hn, hm⟩ := G.blt h1
  exact ⟨pe_bltn hg hm h3 rfl hn hd, h2⟩
theorem tyNames_pa (G : Good X Z Γ EX) : ∀ {ts : List String} {es : List Expr}, tyNames Γ ts es = true → (∃ t, PA X es t ∧ ∀ σ H Q, Q (ts.map V.ty) H → t σ H Q) ∧ (∀ t ∈ ts, tyOk t = true) ∧ Paired ClsV (ts.map V.ty) (ts.map Value.type)
  | [], [], _ => ⟨⟨tNil, pa_nil, fun _ _ _ q => q⟩, (fun _ m => nomatch m), .nil⟩
  | t :: ts, e :: es, h => by
    simp only [tyNames, Bool.and_eq_true] at h
    obtain ⟨⟨h1, h2⟩, h3⟩ := h
    obtain ⟨p1, k1⟩ := tyName_pe G h1
    obtain ⟨⟨t2, p2, q2⟩, k2, k3⟩ := tyNames_pa G h3
    refine ⟨⟨tCons (tC (.ty t)) t2, pa_cons p1 p2 (starEach_of h2), fun σ H Q q => q2 _ _ _ q⟩, fun u m => ?_, .cons (.ty t) k3⟩
    rcases List.mem_cons.mp m with rfl | m
    · exact k1
    · exact k2 u m
  | [], _ :: _, h => by simp [tyNames] at h
  | _ :: _, [], h => by simp [tyNames] at h
theorem tyNames_len {ts : List String} {es : List Expr} (h : tyNames Γ ts es = true) : ts.length = es.length := by
  induction ts generalizing es with
  | nil => cases es <;> simp_all [tyNames]
  | cons t ts ih =>
    cases es with
    | nil => simp [tyNames] at h
    | cons e es => simp only [tyNames, Bool.and_eq_true] at h; simp [ih h.2]

/-- what one operator does -/
theorem o1_ok (G : Good X Z Γ EX) {o : O1} {e a : Expr} (h : ast1 Γ o e = some a) {σ : L2.St} {H0 : Hp} {Q : VK}
    (q : tW X a σ H0 fun v H => ∃ (F : Addr → Prop) (d d' : D) (W : List Addr), Reps X.K H F [d] [v] W ∧ ap1 o d = some d' ∧ ∀ v' H', KA H H' → (∀ F', Reps X.K H' F' [d'] [v'] []) → Q v' H') : tW X e σ H0 Q := by
  cases o with
  | neg =>
    cases e <;> simp only [ast1, reduceCtorEq] at h
    rename_i op a' pos
    cases op <;> simp only [Option.some.injEq, reduceCtorEq] at h
    subst h
    refine toW (pe_un un_neg peW) (q.mono fun v H ⟨F, d, d', W, r, ea, k⟩ => ?_)
    cases d <;> simp only [ap1, Option.some.injEq, reduceCtorEq] at ea
    subst ea
    exact ⟨_, r.intI, k _ _ (KA.refl _) fun _ => .int .nil⟩
  | not =>
    cases e <;> simp only [ast1, reduceCtorEq] at h
    rename_i op a' pos
    cases op <;> simp only [Option.some.injEq, reduceCtorEq] at h
    subst h
    refine toW (pe_notT peW) (q.mono fun v H ⟨F, d, d', W, r, ea, k⟩ => ?_)
    simp only [ap1] at ea
    cases et : tru d with
    | none => rw [et] at ea; simp at ea
    | some b =>
      rw [et] at ea
      simp only [Option.some.injEq] at ea
      subst ea
      exact ⟨b, tru_of r et, k _ _ (KA.refl _) fun _ => .bl .nil⟩
  | len =>
    refine b1 G h call_len_seq PySem.boot_len (q.mono fun v H ⟨F, d, d', W, r, ea, k⟩ => ?_)
    have hd : ∃ ds, d.els = some ds ∧ d' = .int ds.length := by
      cases d <;> simp only [ap1, Option.some.injEq, reduceCtorEq] at ea <;> exact ⟨_, rfl, ea.symm⟩
    obtain ⟨ds, h1, rfl⟩ := hd
    obtain ⟨p, us, W1, rfl, s, r1, _⟩ := r.els h1
    refine ⟨p, us, rfl, s, ?_⟩
    rw [← r1.length]
    exact k _ _ (KA.refl _) fun _ => .int .nil
  | abs =>
    refine b1 (id := "abs") G h call_abs (by decide +kernel) (q.mono fun v H ⟨F, d, d', W, r, ea, k⟩ => ?_)
    cases d <;> simp only [ap1, Option.some.injEq, reduceCtorEq] at ea
    subst ea
    exact ⟨_, by rw [r.intI], k _ _ (KA.refl _) fun _ => .int .nil⟩
  | int1 =>
    refine ty1 (id := "int") G h call_int1 (by decide +kernel) (q.mono fun v H ⟨F, d, d', W, r, ea, k⟩ => ?_)
    cases d <;> simp only [ap1, Option.some.injEq, reduceCtorEq] at ea
    · subst ea
      exact .inr ⟨_, by rw [r.blI], k _ _ (KA.refl _) fun _ => .int .nil⟩
    · subst ea
      exact .inl ⟨_, by rw [r.intI], k _ _ (KA.refl _) fun _ => .int .nil⟩
  | isN =>
    obtain ⟨j, p, pos, rfl⟩ := noneCmp_out h
    refine toW (pe_cmp (pc_isN peW)) (q.mono fun v H ⟨F, d, d', W, r, ea, k⟩ => ?_)
    have : d' = .bl (decide (v = V.non)) := by
      cases d <;> simp only [ap1, Option.some.injEq] at ea <;> subst ea
      · rw [r.nonI]; rfl
      · rw [r.blI]; rfl
      · rw [r.intI]; rfl
      · rw [r.strI]; rfl
      · obtain ⟨a, us, e, _⟩ := r.tupI; rw [e]; rfl
      · obtain ⟨a, us, _, e, _⟩ := r.lstI; rw [e]; rfl
      · cases r <;> rfl
      · obtain ⟨a, us, e, _⟩ := r.frzI; rw [e]; rfl
    subst this
    exact k _ _ (KA.refl _) fun _ => .bl .nil
  | ntN =>
    obtain ⟨j, p, pos, rfl⟩ := noneCmp_out h
    refine toW (pe_cmp (pc_notN peW)) (q.mono fun v H ⟨F, d, d', W, r, ea, k⟩ => ?_)
    have : d' = .bl (!decide (v = V.non)) := by
      cases d <;> simp only [ap1, Option.some.injEq] at ea <;> subst ea
      · rw [r.nonI]; rfl
      · rw [r.blI]; rfl
      · rw [r.intI]; rfl
      · rw [r.strI]; rfl
      · obtain ⟨a, us, e, _⟩ := r.tupI; rw [e]; rfl
      · obtain ⟨a, us, _, e, _⟩ := r.lstI; rw [e]; rfl
      · cases r <;> rfl
      · obtain ⟨a, us, e, _⟩ := r.frzI; rw [e]; rfl
    subst this
    exact k _ _ (KA.refl _) fun _ => .bl .nil
  | eqE =>
    obtain ⟨p, pos, rfl⟩ := empCmp_out h
    refine toW (pe_cmpR (op_eqD G.un) peW (pe_lst pa_nil) (noMark rfl)) (q.mono fun v H ⟨F, d, d', W, r, ea, k⟩ => ?_)
    refine ⟨Nat.zero_le _, fun n hn => ?_⟩
    have kk : KA H (upd H n (.lst [])) := KA.new hn
    have rn : Reps X.K (upd H n (.lst [])) (fun a => a = n) [.lst false []] [.ref n] [] := .sh rfl (upd_same (H := H) (a := n) (o := .lst [])) .nil .nil
    simp only [ap1] at ea
    split at ea <;> simp only [Option.some.injEq, reduceCtorEq] at ea
    rename_i b hb
    subst ea
    obtain ⟨p, q', h1, h2, h3, h4, h5⟩ := eqD_dp (kk.reps r) rn hb
    exact ⟨p, q', h1, h2, h3, h4, by rw [← h5]; exact k _ _ kk fun _ => .bl .nil⟩
  | neE =>
    obtain ⟨p, pos, rfl⟩ := empCmp_out h
    refine toW (pe_cmpR (op_neD G.un) peW (pe_lst pa_nil) (noMark rfl)) (q.mono fun v H ⟨F, d, d', W, r, ea, k⟩ => ?_)
    refine ⟨Nat.zero_le _, fun n hn => ?_⟩
    have kk : KA H (upd H n (.lst [])) := KA.new hn
    have rn : Reps X.K (upd H n (.lst [])) (fun a => a = n) [.lst false []] [.ref n] [] := .sh rfl (upd_same (H := H) (a := n) (o := .lst [])) .nil .nil
    simp only [ap1] at ea
    split at ea <;> simp only [Option.some.injEq, reduceCtorEq] at ea
    rename_i b hb
    subst ea
    obtain ⟨p, q', h1, h2, h3, h4, h5⟩ := eqD_dp (kk.reps r) rn hb
    exact ⟨p, q', h1, h2, h3, h4, by rw [← h5]; exact k _ _ kk fun _ => .bl .nil⟩
  | isi ts =>
    simp only [ast1] at h
    split at h
    · rename_i a' es k' pos' hc
      split at h
      · rename_i ht
        cases h
        simp only [Bool.and_eq_true, decide_eq_true_eq] at ht
        obtain ⟨ht, hl⟩ := ht
        obtain ⟨⟨t2, p2, q2⟩, k2, k3⟩ := tyNames_pa G ht
        refine b2 (id := "isinstance") G hc call_isiT (by decide +kernel) (q.mono fun v H ⟨F, d, d', W, r, ea, k⟩ => ?_)
        simp only [ap1, Option.some.injEq] at ea
        subst ea
        refine toW (pe_tup p2) (q2 _ _ _ ⟨?_, fun p hp => ?_⟩)
        · have : (ts.map V.ty).length ≤ 1000000 → (ts.map V.ty).length ≤ sizeLine := fun h => Nat.le_trans h (by rw [sizeLine_eq]; decide)
          refine this ?_
          rw [List.length_map]
          exact Nat.le_trans hl (by decide)
        · have kk : KA H (upd H p (.tup (ts.map V.ty))) := KA.new hp
          exact ⟨v, p, ts.map V.ty, .type (tyStr d), ts.map Value.type, _, rfl, upd_same, k3, (kk.reps r).ty, kitAny_of k2, k _ _ kk fun _ => .bl .nil⟩
      · cases h
    · rename_i a' b' hb hc
      split at h
      · rename_i t
        split at h
        · rename_i ht
          cases h
          obtain ⟨p1, k1⟩ := tyName_pe G ht
          refine b2 (id := "isinstance") G hc call_isi (by decide +kernel) (q.mono fun v H ⟨F, d, d', W, r, ea, k⟩ => ?_)
          simp only [ap1, Option.some.injEq] at ea
          subst ea
          refine toW p1 ⟨v, .ty t, .type (tyStr d), .type t, _, rfl, .ty t, r.ty, kit_ty (kit_of_ty k1), ?_⟩
          have : (D.isT d t) = ([t].any d.isT) := by simp
          rw [this]
          exact k _ _ (KA.refl _) fun _ => .bl .nil
        · cases h
      · cases h
    · cases h
end
end Q

namespace Q
open PySem L2 PySem.Spec

def binAst (op : Operator) : Expr → Option (Expr × Expr)
  | .BinOp a o b _ => if o = op then some (a, b) else none
  | _ => none
theorem binAst_out {op : Operator} {e a b : Expr} (h : binAst op e = some (a, b)) : ∃ pos, e = .BinOp a op b pos := by
  unfold binAst at h
  split at h
  · split at h
    · rename_i q; cases h; subst q; exact ⟨_, rfl⟩
    · cases h
  · cases h
def cmpAst (op : CmpOp) : Expr → Option (Expr × Expr)
  | .Compare a [o] [b] _ => if o = op ∧ notSet b = true then some (a, b) else none
  | _ => none
theorem cmpAst_out {op : CmpOp} {e a b : Expr} (h : cmpAst op e = some (a, b)) : ∃ pos, e = .Compare a [op] [b] pos ∧ notSet b = true := by
  unfold cmpAst at h
  split at h
  · split at h
    · rename_i q; cases h; obtain ⟨rfl, q⟩ := q; exact ⟨_, rfl, q⟩
    · cases h
  · cases h
def notSlice : Expr → Bool
  | .Slice .. => false
  | _ => true
theorem plainIx {b : Expr} (h : notSlice b = true) : PlainIx b := by
  cases b <;> first | (intro o i; rfl) | (simp [notSlice] at h)
def ixAst : Expr → Option (Expr × Expr)
  | .Subscript a b _ => if notSlice b = true then some (a, b) else none
  | _ => none
theorem ixAst_out {e a b : Expr} (h : ixAst e = some (a, b)) : ∃ pos, e = .Subscript a b pos ∧ notSlice b = true := by
  unfold ixAst at h
  split at h
  · split at h
    · rename_i q; cases h; exact ⟨_, rfl, q⟩
    · cases h
  · cases h

def ast2 (Γ : Gam) : O2 → Expr → Option (Expr × Expr)
  | .add, e => binAst .Add e
  | .sub, e => binAst .Sub e
  | .mul, e => binAst .Mult e
  | .fdiv, e => binAst .FloorDiv e
  | .mod, e => binAst .Mod e
  | .pow, e => binAst .Pow e
  | .lt, e => cmpAst .Lt e
  | .le, e => cmpAst .LtE e
  | .gt, e => cmpAst .Gt e
  | .ge, e => cmpAst .GtE e
  | .eq, e => cmpAst .Eq e
  | .ne, e => cmpAst .NotEq e
  | .isin, e => cmpAst .In e
  | .notin, e => cmpAst .NotIn e
  | .ix, e => ixAst e
  | .min, e => callB2 Γ "min" e
  | .max, e => callB2 Γ "max" e

section
variable {X : Cx} {Z : EnvQ} {Γ : Gam} {EX : XK} {K : PySem.W.Frag} {H : Hp} {F : Addr → Prop} {W : List Addr}

theorem Reps.at_ {ds : List D} {us : List V} {d : D} {i : Int} (r : Reps K H F ds us W) (h : atI ds i = some d) : ∃ v W1, atI us i = some v ∧ Reps K H F [d] [v] W1 ∧ W1.Sublist W := by
  unfold atI at h ⊢
  rw [← r.length]
  cases q : ixN ds.length i with
  | none => rw [q] at h; simp at h
  | some j =>
    rw [q] at h
    obtain ⟨v, W1, e, r1, s⟩ := r.get (i := j) (by simpa using h)
    exact ⟨v, W1, by simpa using e, r1, s⟩

theorem flat_of {d : D} {v : V} (r : Reps K H F [d] [v] W) (h : flatD d = true) : flatV v = true := by
  cases d <;> simp only [flatD, Bool.false_eq_true] at h
  · rw [r.nonI]; rfl
  · rw [r.blI]; rfl
  · rw [r.intI]; rfl
  · rw [r.strI]; rfl
theorem eqF_of {d e : D} {v u : V} {W2 : List Addr} {F2 : Addr → Prop} (r : Reps K H F [d] [v] W) (r2 : Reps K H F2 [e] [u] W2) (h : flatD d = true) (h2 : flatD e = true) : eqV v u = eqF d e := by
  have str : ∀ a b : Str, (a == b) = decide (a = b) := fun a b => by by_cases e : a = b <;> simp [e]
  have int : ∀ a b : Int, (a == b) = decide (a = b) := fun a b => by by_cases e : a = b <;> simp [e]
  cases d <;> simp only [flatD, Bool.false_eq_true] at h <;> cases e <;> simp only [flatD, Bool.false_eq_true] at h2 <;>
    first
    | (rw [r.nonI]; first | rw [r2.nonI] | rw [r2.blI] | rw [r2.intI] | rw [r2.strI])
    | (rw [r.blI]; first | rw [r2.nonI] | rw [r2.blI] | rw [r2.intI] | rw [r2.strI])
    | (rw [r.intI]; first | rw [r2.nonI] | rw [r2.blI] | rw [r2.intI] | rw [r2.strI])
    | (rw [r.strI]; first | rw [r2.nonI] | rw [r2.blI] | rw [r2.intI] | rw [r2.strI])
  all_goals first | rfl | exact int _ _ | exact str _ _
theorem flats_of {ds : List D} : ∀ {us : List V} {W : List Addr}, Reps K H F ds us W → ds.all flatD = true → us.all flatV = true := by
  induction ds with
  | nil => intro us W r _; cases r; rfl
  | cons d ds ih =>
    intro us W r h
    cases us with
    | nil => cases r
    | cons u us =>
      obtain ⟨W1, W2, rfl, r1, r2⟩ := Reps.cons_iff.mp r
      simp only [List.all_cons, Bool.and_eq_true] at h ⊢
      exact ⟨flat_of r1 h.1, ih r2 h.2⟩
theorem inV_of {x : D} {v : V} {Wx : List Addr} {Fx : Addr → Prop} {ds : List D} (rx : Reps K H Fx [x] [v] Wx) (hx : flatD x = true) : ∀ {us : List V} {W : List Addr}, Reps K H F ds us W → ds.all flatD = true → inV v us = ds.any fun y => eqF y x := by
  induction ds with
  | nil => intro us W r _; cases r; rfl
  | cons d ds ih =>
    intro us W r h
    cases us with
    | nil => cases r
    | cons u us =>
      obtain ⟨W1, W2, rfl, r1, r2⟩ := Reps.cons_iff.mp r
      simp only [List.all_cons, Bool.and_eq_true] at h
      have e := ih r2 h.2
      unfold inV at e ⊢
      rw [List.any_cons, List.any_cons, e, eqF_of r1 rx h.1 hx]

/-- two ints under an operator -/
theorem intOp {op : Value → Value → Sem Value} {a b : Expr} (σ : L2.St) : True := trivial

theorem o2_ok (G : Good X Z Γ EX) {o : O2} {e a b : Expr} (h : ast2 Γ o e = some (a, b)) {σ : L2.St} {H0 : Hp} {Q : VK}
    (q : tW X a σ H0 fun v H1 => tW X b σ H1 fun u H => ∃ (F F2 : Addr → Prop) (d d2 d' : D) (W W2 : List Addr), Reps X.K H F [d] [v] W ∧ Reps X.K H F2 [d2] [u] W2 ∧ ap2 o d d2 = some d' ∧
      ∀ v' H' W', KA H H' → Reps X.K H' F [d'] [v'] W' → W'.Sublist W → Q v' H') : tW X e σ H0 Q := by
  have go : ∀ {r : R2}, (∀ v u H, (∃ (F F2 : Addr → Prop) (d d2 d' : D) (W W2 : List Addr), Reps X.K H F [d] [v] W ∧ Reps X.K H F2 [d2] [u] W2 ∧ ap2 o d d2 = some d' ∧
      ∀ v' H' W', KA H H' → Reps X.K H' F [d'] [v'] W' → W'.Sublist W → Q v' H') → r v u H Q) → tOp r (tW X a) (tW X b) σ H0 Q := fun {r} k => q.mono fun v H1 q1 => q1.mono fun u H q2 => k v u H q2
  have sc : ∀ {F : Addr → Prop} {W : List Addr} {d' : D} {v' : V} {H : Hp} {k : ∀ v' H' W', KA H H' → Reps X.K H' F [d'] [v'] W' → W'.Sublist W → Q v' H'}, Reps X.K H F [d'] [v'] [] → Q v' H := fun {F W d' v' H k} r => k _ _ _ (KA.refl _) r (List.nil_sublist _)
  cases o with
  | add =>
    obtain ⟨pos, rfl⟩ := binAst_out h
    refine toW (pe_op op_add peW peW) (go fun v u H ⟨F, F2, d, d2, d', W, W2, r, r2, ea, k⟩ => ?_)
    cases d <;> cases d2 <;> simp only [ap2, Option.some.injEq, reduceCtorEq] at ea
    subst ea
    exact ⟨_, _, r.intI, r2.intI, k _ _ _ (KA.refl _) (.int .nil) (List.nil_sublist _)⟩
  | sub =>
    obtain ⟨pos, rfl⟩ := binAst_out h
    refine toW (pe_op op_sub peW peW) (go fun v u H ⟨F, F2, d, d2, d', W, W2, r, r2, ea, k⟩ => ?_)
    cases d <;> cases d2 <;> simp only [ap2, Option.some.injEq, reduceCtorEq] at ea
    subst ea
    exact ⟨_, _, r.intI, r2.intI, k _ _ _ (KA.refl _) (.int .nil) (List.nil_sublist _)⟩
  | mul =>
    obtain ⟨pos, rfl⟩ := binAst_out h
    refine toW (pe_op op_mulW peW peW) (go fun v u H ⟨F, F2, d, d2, d', W, W2, r, r2, ea, k⟩ => ?_)
    cases d <;> cases d2 <;> simp only [ap2, reduceCtorEq] at ea
    split at ea <;> simp only [Option.some.injEq, reduceCtorEq] at ea
    rename_i hc
    subst ea
    exact ⟨_, _, r.intI, r2.intI, hc, k _ _ _ (KA.refl _) (.int .nil) (List.nil_sublist _)⟩
  | fdiv =>
    obtain ⟨pos, rfl⟩ := binAst_out h
    have op : OpR X (binaryOp .FloorDiv) (rI (fun _ j => j ≠ 0 ∧ j.natAbs.log2 < 9000) fun i j => .int (i.fdiv j)) := opI fun i j _ _ _ _ _ hc q => PyProof.Rows.floordiv_int hc.1 q (.inl (PyProof.noPylong_of_log2 hc.2))
    refine toW (pe_op op peW peW) (go fun v u H ⟨F, F2, d, d2, d', W, W2, r, r2, ea, k⟩ => ?_)
    cases d <;> cases d2 <;> simp only [ap2, reduceCtorEq] at ea
    split at ea <;> simp only [Option.some.injEq, reduceCtorEq] at ea
    rename_i hc
    subst ea
    exact ⟨_, _, r.intI, r2.intI, hc, k _ _ _ (KA.refl _) (.int .nil) (List.nil_sublist _)⟩
  | mod =>
    obtain ⟨pos, rfl⟩ := binAst_out h
    refine toW (pe_op op_modN peW peW) (go fun v u H ⟨F, F2, d, d2, d', W, W2, r, r2, ea, k⟩ => ?_)
    cases d <;> cases d2 <;> simp only [ap2, reduceCtorEq] at ea
    split at ea <;> simp only [Option.some.injEq, reduceCtorEq] at ea
    rename_i hc
    subst ea
    exact ⟨_, _, r.intI, r2.intI, hc, k _ _ _ (KA.refl _) (.int .nil) (List.nil_sublist _)⟩
  | pow =>
    obtain ⟨pos, rfl⟩ := binAst_out h
    refine toW (pe_op op_pow peW peW) (go fun v u H ⟨F, F2, d, d2, d', W, W2, r, r2, ea, k⟩ => ?_)
    cases d <;> cases d2 <;> simp only [ap2, reduceCtorEq] at ea
    split at ea <;> simp only [Option.some.injEq, reduceCtorEq] at ea
    rename_i hc
    subst ea
    exact ⟨_, _, r.intI, r2.intI, ⟨hc.1, by omega, hc.2.2⟩, k _ _ _ (KA.refl _) (.int .nil) (List.nil_sublist _)⟩
  | lt =>
    obtain ⟨pos, rfl, hm⟩ := cmpAst_out h
    refine toW (pe_cmpR op_lt peW peW (noMark hm)) (go fun v u H ⟨F, F2, d, d2, d', W, W2, r, r2, ea, k⟩ => ?_)
    cases d <;> cases d2 <;> simp only [ap2, Option.some.injEq, reduceCtorEq] at ea
    subst ea
    exact ⟨_, _, r.intI, r2.intI, k _ _ _ (KA.refl _) (.bl .nil) (List.nil_sublist _)⟩
  | le =>
    obtain ⟨pos, rfl, hm⟩ := cmpAst_out h
    refine toW (pe_cmpR op_le peW peW (noMark hm)) (go fun v u H ⟨F, F2, d, d2, d', W, W2, r, r2, ea, k⟩ => ?_)
    cases d <;> cases d2 <;> simp only [ap2, Option.some.injEq, reduceCtorEq] at ea
    subst ea
    exact ⟨_, _, r.intI, r2.intI, k _ _ _ (KA.refl _) (.bl .nil) (List.nil_sublist _)⟩
  | gt =>
    obtain ⟨pos, rfl, hm⟩ := cmpAst_out h
    refine toW (pe_cmpR op_gt peW peW (noMark hm)) (go fun v u H ⟨F, F2, d, d2, d', W, W2, r, r2, ea, k⟩ => ?_)
    cases d <;> cases d2 <;> simp only [ap2, Option.some.injEq, reduceCtorEq] at ea
    subst ea
    exact ⟨_, _, r.intI, r2.intI, k _ _ _ (KA.refl _) (.bl .nil) (List.nil_sublist _)⟩
  | ge =>
    obtain ⟨pos, rfl, hm⟩ := cmpAst_out h
    refine toW (pe_cmpR op_ge peW peW (noMark hm)) (go fun v u H ⟨F, F2, d, d2, d', W, W2, r, r2, ea, k⟩ => ?_)
    cases d <;> cases d2 <;> simp only [ap2, Option.some.injEq, reduceCtorEq] at ea
    subst ea
    exact ⟨_, _, r.intI, r2.intI, k _ _ _ (KA.refl _) (.bl .nil) (List.nil_sublist _)⟩
  | eq =>
    obtain ⟨pos, rfl, hm⟩ := cmpAst_out h
    refine toW (pe_cmpR (op_eqD G.un) peW peW (noMark hm)) (go fun v u H ⟨F, F2, d, d2, d', W, W2, r, r2, ea, k⟩ => ?_)
    simp only [ap2] at ea
    split at ea <;> simp only [Option.some.injEq, reduceCtorEq] at ea
    rename_i bb hb
    subst ea
    obtain ⟨p, q', h1, h2, h3, h4, h5⟩ := eqD_dp r r2 hb
    exact ⟨p, q', h1, h2, h3, h4, by rw [← h5]; exact k _ _ _ (KA.refl _) (.bl .nil) (List.nil_sublist _)⟩
  | ne =>
    obtain ⟨pos, rfl, hm⟩ := cmpAst_out h
    refine toW (pe_cmpR (op_neD G.un) peW peW (noMark hm)) (go fun v u H ⟨F, F2, d, d2, d', W, W2, r, r2, ea, k⟩ => ?_)
    simp only [ap2] at ea
    split at ea <;> simp only [Option.some.injEq, reduceCtorEq] at ea
    rename_i bb hb
    subst ea
    obtain ⟨p, q', h1, h2, h3, h4, h5⟩ := eqD_dp r r2 hb
    exact ⟨p, q', h1, h2, h3, h4, by rw [← h5]; exact k _ _ _ (KA.refl _) (.bl .nil) (List.nil_sublist _)⟩
  | ix =>
    obtain ⟨pos, rfl, hs⟩ := ixAst_out h
    refine toW (pe_ix ix_seq peW peW (plainIx hs)) (go fun v u H ⟨F, F2, d, d2, d', W, W2, r, r2, ea, k⟩ => ?_)
    cases d <;> cases d2 <;> simp only [ap2, reduceCtorEq] at ea
    · obtain ⟨p, us, e1, s, r1⟩ := r.tupI
      obtain ⟨v', W1, e2, r3, sb⟩ := r1.at_ ea
      exact .inr (.inl ⟨p, us, _, v', e1, r2.intI, s, e2, k _ _ _ (KA.refl _) r3 sb⟩)
    · obtain ⟨p, us, W0, e1, s, r1, sb0, _⟩ := r.lstI
      obtain ⟨v', W1, e2, r3, sb⟩ := r1.at_ ea
      exact .inl ⟨p, us, _, v', e1, r2.intI, SqL.of s, e2, k _ _ _ (KA.refl _) r3 (sb.trans sb0)⟩
    · obtain ⟨p, us, e1, s, r1⟩ := r.frzI
      obtain ⟨v', W1, e2, r3, sb⟩ := r1.at_ ea
      have : W1 = [] := List.sublist_nil.mp sb
      subst this
      exact .inl ⟨p, us, _, v', e1, r2.intI, s.sq, e2, k _ _ _ (KA.refl _) r3 (List.nil_sublist _)⟩
  | min =>
    refine b2 (id := "min") G h (call_min2 G.calm) (by decide +kernel) (q.mono fun v H1 q1 => q1.mono fun u H ⟨F, F2, d, d2, d', W, W2, r, r2, ea, k⟩ => ?_)
    cases d <;> cases d2 <;> simp only [ap2, Option.some.injEq, reduceCtorEq] at ea
    subst ea
    exact ⟨_, _, by rw [r.intI, r2.intI], k _ _ _ (KA.refl _) (.int .nil) (List.nil_sublist _)⟩
  | max =>
    refine b2 (id := "max") G h (call_max2 G.calm) (by decide +kernel) (q.mono fun v H1 q1 => q1.mono fun u H ⟨F, F2, d, d2, d', W, W2, r, r2, ea, k⟩ => ?_)
    cases d <;> cases d2 <;> simp only [ap2, Option.some.injEq, reduceCtorEq] at ea
    subst ea
    exact ⟨_, _, by rw [r.intI, r2.intI], k _ _ _ (KA.refl _) (.int .nil) (List.nil_sublist _)⟩
  | isin =>
    obtain ⟨pos, rfl, hm⟩ := cmpAst_out h
    refine toW (pe_cmpR op_in_seq peW peW (noMark hm)) (go fun v u H ⟨F, F2, d, d2, d', W, W2, r, r2, ea, k⟩ => ?_)
    have : ∃ ds, d2.els = some ds ∧ flatD d = true ∧ ds.all flatD = true ∧ d' = .bl (ds.any fun y => eqF y d) := by
      cases d2 <;> simp only [ap2, reduceCtorEq] at ea <;> (split at ea <;> simp only [Option.some.injEq, reduceCtorEq] at ea) <;>
        (rename_i hc; simp only [Bool.and_eq_true] at hc; exact ⟨_, rfl, hc.1, hc.2, ea.symm⟩)
    obtain ⟨ds, h1, h2, h3, rfl⟩ := this
    obtain ⟨p, us, W1, e1, s, r1, sb⟩ := r2.els h1
    refine ⟨p, us, e1, s, flat_of r h2, flats_of r1 h3, ?_⟩
    rw [if_neg Bool.false_ne_true, inV_of r h2 r1 h3]
    exact k _ _ _ (KA.refl _) (.bl .nil) (List.nil_sublist _)
  | notin =>
    obtain ⟨pos, rfl, hm⟩ := cmpAst_out h
    refine toW (pe_cmpR op_notIn_seq peW peW (noMark hm)) (go fun v u H ⟨F, F2, d, d2, d', W, W2, r, r2, ea, k⟩ => ?_)
    have : ∃ ds, d2.els = some ds ∧ flatD d = true ∧ ds.all flatD = true ∧ d' = .bl (!ds.any fun y => eqF y d) := by
      cases d2 <;> simp only [ap2, reduceCtorEq] at ea <;> (split at ea <;> simp only [Option.some.injEq, reduceCtorEq] at ea) <;>
        (rename_i hc; simp only [Bool.and_eq_true] at hc; exact ⟨_, rfl, hc.1, hc.2, ea.symm⟩)
    obtain ⟨ds, h1, h2, h3, rfl⟩ := this
    obtain ⟨p, us, W1, e1, s, r1, sb⟩ := r2.els h1
    refine ⟨p, us, e1, s, flat_of r h2, flats_of r1 h3, ?_⟩
    rw [if_pos rfl, inV_of r h2 r1 h3]
    exact k _ _ _ (KA.refl _) (.bl .nil) (List.nil_sublist _)
end
end Q

namespace Q
open PySem L2 PySem.Spec

/-! ## tests -/
def two1 : List CmpOp → List Expr → Bool
  | [_], [_] => true
  | _, _ => false
theorem two1_out {ops : List CmpOp} {bs : List Expr} (h : two1 ops bs = true) : ∃ op b, ops = [op] ∧ bs = [b] := by
  unfold two1 at h
  split at h
  · exact ⟨_, _, rfl, rfl⟩
  · cases h
def ttOk : Expr → Bool
  | .BoolOp .. => false
  | .IfExp .. => false
  | .UnaryOp .Not _ _ => false
  | .Compare _ ops bs _ => two1 ops bs
  | _ => true
theorem ttOk_cmp {a : Expr} {ops : List CmpOp} {bs : List Expr} {pos : Pos} (h : ttOk (.Compare a ops bs pos) = true) : ∃ op b, ops = [op] ∧ bs = [b] := two1_out h
def cmp1 : Expr → Bool
  | .Compare .. => true
  | _ => false
section
variable {X : Cx} {Z : EnvQ} {Γ : Gam} {EX : XK}
theorem tt_plain {e : Expr} (h : ttOk e = true) (hc : cmp1 e = false) {σ : L2.St} {H : Hp} {Q : Bool → Hp → Prop} (q : tW X e σ H fun v H' => ∃ k, TruV X.K v H' k ∧ Q k H') : ttW X e σ H Q := by
  refine toTW (pt_truth peW fun whole => ?_) q
  cases e <;> first | rfl | (simp [ttOk, cmp1] at h hc; done) | skip
  rename_i op a pos
  cases op <;> first | rfl | (simp [ttOk] at h; done)
theorem tt_gen {e : Expr} (h : ttOk e = true) {σ : L2.St} {H : Hp} {Q : Bool → Hp → Prop} (q : tW X e σ H fun v H' => ∃ k, TruV X.K v H' k ∧ Q k H') : ttW X e σ H Q := by
  cases hc : cmp1 e with
  | false => exact tt_plain h hc q
  | true =>
    cases e <;> simp only [cmp1, Bool.false_eq_true] at hc
    rename_i a ops bs pos
    have hs : ∃ op b, ops = [op] ∧ bs = [b] := by
      exact ttOk_cmp h
    obtain ⟨op, b, rfl, rfl⟩ := hs
    intro pins s I
    have e1 : isTrue (.Compare a [op] [b] pos) X.env (eval (.Compare a [op] [b] pos) X.env) = (eval (.Compare a [op] [b] pos) X.env >>= fun c => holding [c] (truthy c)) := by
      show (do let l ← eval a X.env; testChain pos l [op] [markedBehindIn op b (eval b X.env)]) = ((do let l ← eval a X.env; compareChain pos l [op] [markedBehindIn op b (eval b X.env)]) >>= fun c => holding [c] (truthy c))
      simp only [testChain, compareChain, bind_assoc]
    rw [e1]
    refine wpAny_bind (thn (q pins s I) fun c s1 ⟨v, H1, I1, r1, k, tk, qk⟩ => PySem.wpAny_holding ?_)
    exact tru_ok pins s1 σ H1 v c Q I1 r1 ⟨k, tk, qk⟩

def tailB (op : BoolOp) (y : Expr) (zs : List Expr) (pos : Pos) : Expr := match zs with
  | [] => y
  | _ => .BoolOp op (y :: zs) pos

theorem tailPE {op : BoolOp} {y : Expr} {zs : List Expr} {pos : Pos} : PE X (.BoolOp op (y :: zs) pos) (tW X (tailB op y zs pos)) := by
  cases zs with
  | nil => exact pe_one peW
  | cons z zs => exact peW
theorem tailAnd {y : Expr} {zs : List Expr} {pos : Pos} : PW X (.BoolOp .And (y :: zs) pos) (ttW X (tailB .And y zs pos)) := by
  cases zs with
  | nil => exact pw_and1 ptW
  | cons z zs => exact ⟨fun wh pins s σ H Q I h => h pins s I⟩
theorem tailOr {y : Expr} {zs : List Expr} {pos : Pos} : PW X (.BoolOp .Or (y :: zs) pos) (ttW X (tailB .Or y zs pos)) := by
  cases zs with
  | nil => exact pw_or1 ptW
  | cons z zs => exact ⟨fun wh pins s σ H Q I h => h pins s I⟩

/-! ## pure expressions in the text -/
def chkP (Γ : Gam) : P → Expr → Bool
  | .var i, e => match e with | .Name x _ => varOk Γ i x | _ => false
  | .int i, e => match e with | .Constant (.int j) _ _ => decide (i = j) | _ => false
  | .bl b, e => match e with | .Constant (.bool c) _ _ => decide (b = c) | _ => false
  | .non, e => match e with | .Constant .none _ _ => true | _ => false
  | .str s, e => match e with | .Constant (.str t) _ _ => decide (s = t) | _ => false
  | .glob x, e => match e with | .Name y _ => decide (x = y) && glOk Γ x && decide (x ∈ Γ.gs) | _ => false
  | .o1 o a, e => match ast1 Γ o e with | some e' => chkP Γ a e' | none => false
  | .o2 o a b, e => match ast2 Γ o e with | some (x, y) => chkP Γ a x && chkP Γ b y | none => false
  | .and a b, e => match e with | .BoolOp .And (x :: y :: zs) pos => chkP Γ a x && chkP Γ b (tailB .And y zs pos) | _ => false
  | .or a b, e => match e with | .BoolOp .Or (x :: y :: zs) pos => chkP Γ a x && chkP Γ b (tailB .Or y zs pos) | _ => false
  | .ife c a b, e => match e with | .IfExp t x y _ => chkP Γ c t && chkP Γ a x && chkP Γ b y | _ => false

theorem ast1_ttOk {o : O1} {e a : Expr} (h : ast1 Γ o e = some a) : (∃ pos, o = .not ∧ e = .UnaryOp .Not a pos) ∨ ttOk e = true := by
  cases o with
  | neg =>
    cases e <;> simp only [ast1, reduceCtorEq] at h
    rename_i op a' pos
    cases op <;> simp only [Option.some.injEq, reduceCtorEq] at h
    exact .inr rfl
  | not =>
    cases e <;> simp only [ast1, reduceCtorEq] at h
    rename_i op a' pos
    cases op <;> simp only [Option.some.injEq, reduceCtorEq] at h
    subst h
    exact .inl ⟨_, rfl, rfl⟩
  | len => obtain ⟨f, pos, rfl, _⟩ := callB1_out h; exact .inr rfl
  | abs => obtain ⟨f, pos, rfl, _⟩ := callB1_out h; exact .inr rfl
  | int1 => obtain ⟨f, pos, rfl, _⟩ := callB1_out h; exact .inr rfl
  | isN => obtain ⟨j, p, pos, rfl⟩ := noneCmp_out h; exact .inr rfl
  | ntN => obtain ⟨j, p, pos, rfl⟩ := noneCmp_out h; exact .inr rfl
  | eqE => obtain ⟨p, pos, rfl⟩ := empCmp_out h; exact .inr rfl
  | neE => obtain ⟨p, pos, rfl⟩ := empCmp_out h; exact .inr rfl
  | isi ts =>
    refine .inr ?_
    simp only [ast1] at h
    split at h
    · rename_i hc; obtain ⟨f, pos, rfl, _⟩ := callB2_out hc; rfl
    · rename_i hc; obtain ⟨f, pos, rfl, _⟩ := callB2_out hc; rfl
    · cases h
theorem ast2_ttOk {o : O2} {e a b : Expr} (h : ast2 Γ o e = some (a, b)) : ttOk e = true := by
  cases o with
  | add | sub | mul | fdiv | mod | pow => obtain ⟨pos, rfl⟩ := binAst_out h; rfl
  | lt | le | gt | ge | eq | ne | isin | notin => obtain ⟨pos, rfl, _⟩ := cmpAst_out h; rfl
  | ix => obtain ⟨pos, rfl, _⟩ := ixAst_out h; rfl
  | min | max => obtain ⟨f, pos, rfl, _⟩ := callB2_out h; rfl

/-- a conditional expression as a test -/
theorem ifT {t a b : Expr} {pos : Pos} {σ : L2.St} {H : Hp} {Q : Bool → Hp → Prop} (q : ttW X t σ H fun c H1 => if c = true then ttW X a σ H1 Q else ttW X b σ H1 Q) : ttW X (.IfExp t a b pos) σ H Q := by
  intro pins s I
  refine PyProof.Rows.isTrue_IfExp (thn (q pins s I) fun c s1 ⟨H1, I1, q1⟩ => ?_)
  cases c with
  | true => exact q1 pins s1 I1
  | false => exact q1 pins s1 I1
/-- the value of a pure expression -/
structure PV (K : PySem.W.Frag) (H : Hp) (F : Addr → Prop) (ws : List (List Addr)) (p : P) (d : D) (v : V) (H' : Hp) : Prop where
  ka : KA H H'
  ex : ∃ W1, Reps K H' F [d] [v] W1 ∧ (∀ a ∈ W1, a ∈ ws.flatten) ∧ ∀ i, p.root = some i → ∀ a ∈ W1, a ∈ ws.getD i []

theorem ap1_noOwn {o : O1} {d d' : D} (h : ap1 o d = some d') : True := trivial

theorem soundP (G : Good X Z Γ EX) : ∀ (p : P) (e : Expr), chkP Γ p e = true → ∀ {L : Lcs} {σ : L2.St} {ws : List (List Addr)} {H : Hp} {F : Addr → Prop} {d : D}, LReps X.K H F L σ ws → pur Z.G p L = some d →
    (∀ {Q : VK}, (∀ v H', PV X.K H F ws p d v H' → Q v H') → tW X e σ H Q) ∧ ∀ {k : Bool} {Q : Bool → Hp → Prop}, tru d = some k → (∀ H', KA H H' → Q k H') → ttW X e σ H Q := by
  have tt : ∀ {p : P} {e : Expr} {L : Lcs} {σ : L2.St} {ws : List (List Addr)} {H : Hp} {F : Addr → Prop} {d : D}, ttOk e = true → (∀ {Q : VK}, (∀ v H', PV X.K H F ws p d v H' → Q v H') → tW X e σ H Q) →
      (∀ {Q : VK}, (∀ v H', PV X.K H F ws p d v H' → Q v H') → tW X e σ H Q) ∧ ∀ {k : Bool} {Q : Bool → Hp → Prop}, tru d = some k → (∀ H', KA H H' → Q k H') → ttW X e σ H Q := by
    intro p e L σ ws H F d h1 h2
    refine ⟨h2, fun {k Q} et q => tt_gen h1 (h2 fun v H' pv => ?_)⟩
    obtain ⟨W1, r, _⟩ := pv.ex
    exact ⟨k, tru_of r et, q _ pv.ka⟩
  intro p
  induction p with
  | var i =>
    intro e h L σ ws H F d l hp
    simp only [chkP] at h
    split at h <;> try (exact absurd h Bool.false_ne_true)
    rename_i x pos
    refine tt (L := L) rfl fun {Q} q => ?_
    simp only [pur] at hp
    split at hp <;> try (simp only [Option.some.injEq, reduceCtorEq] at hp)
    rename_i d0 hd
    subst hp
    obtain ⟨v, e1, r, hi⟩ := l.get hd
    exact toW (G.var h) ⟨v, e1, q v H ⟨KA.refl _, _, r, fun a m => flat_mem m, fun j ej a m => by simp only [P.root, Option.some.injEq] at ej; subst ej; exact m⟩⟩
  | int i =>
    intro e h L σ ws H F d l hp
    simp only [chkP] at h
    split at h <;> try (exact absurd h Bool.false_ne_true)
    simp only [decide_eq_true_eq] at h
    subst h
    refine tt (L := L) rfl fun {Q} q => ?_
    simp only [pur, Option.some.injEq] at hp
    subst hp
    exact toW pe_int (q _ H ⟨KA.refl _, [], .int .nil, (fun a m => nomatch m), fun _ _ a m => nomatch m⟩)
  | bl b =>
    intro e h L σ ws H F d l hp
    simp only [chkP] at h
    split at h <;> try (exact absurd h Bool.false_ne_true)
    simp only [decide_eq_true_eq] at h
    subst h
    refine tt (L := L) rfl fun {Q} q => ?_
    simp only [pur, Option.some.injEq] at hp
    subst hp
    exact toW pe_bl (q _ H ⟨KA.refl _, [], .bl .nil, (fun a m => nomatch m), fun _ _ a m => nomatch m⟩)
  | non =>
    intro e h L σ ws H F d l hp
    simp only [chkP] at h
    split at h <;> try (exact absurd h Bool.false_ne_true)
    refine tt (L := L) rfl fun {Q} q => ?_
    simp only [pur, Option.some.injEq] at hp
    subst hp
    exact toW pe_non (q _ H ⟨KA.refl _, [], .non .nil, (fun a m => nomatch m), fun _ _ a m => nomatch m⟩)
  | str s =>
    intro e h L σ ws H F d l hp
    simp only [chkP] at h
    split at h <;> try (exact absurd h Bool.false_ne_true)
    simp only [decide_eq_true_eq] at h
    subst h
    refine tt (L := L) rfl fun {Q} q => ?_
    simp only [pur, Option.some.injEq] at hp
    subst hp
    exact toW pe_str (q _ H ⟨KA.refl _, [], .str .nil, (fun a m => nomatch m), fun _ _ a m => nomatch m⟩)
  | glob x =>
    intro e h L σ ws H F d l hp
    simp only [chkP] at h
    split at h <;> try (exact absurd h Bool.false_ne_true)
    simp only [Bool.and_eq_true, decide_eq_true_eq] at h
    obtain ⟨⟨rfl, h1⟩, h2⟩ := h
    refine tt (L := L) rfl fun {Q} q => ?_
    simp only [pur] at hp
    obtain ⟨v, u, m, rv, rr⟩ := G.gs _ h2 _ hp
    obtain ⟨g1, g2, g3⟩ := G.gl h1
    exact toW (pe_glob g1 m rv g2) (q _ H ⟨KA.refl _, [], rr H F, (fun a m => nomatch m), fun _ _ a m => nomatch m⟩)
  | o1 o a ih =>
    intro e h L σ ws H F d l hp
    simp only [chkP] at h
    split at h <;> try (exact absurd h Bool.false_ne_true)
    rename_i e' he
    simp only [pur] at hp
    split at hp <;> try (simp only [reduceCtorEq] at hp)
    rename_i da hda
    obtain ⟨i1, i2⟩ := ih e' h l hda
    have val : ∀ {Q : VK}, (∀ v H', PV X.K H F ws (.o1 o a) d v H' → Q v H') → tW X e σ H Q := fun {Q} q => by
      refine o1_ok G he (i1 fun v H1 pv => ?_)
      obtain ⟨W1, r, _⟩ := pv.ex
      refine ⟨F, da, d, W1, r, hp, fun v' H' k rr => q v' H' ⟨pv.ka.trans k, [], rr F, (fun a m => nomatch m), fun _ _ a m => nomatch m⟩⟩
    rcases ast1_ttOk he with ⟨pos, rfl, rfl⟩ | ht
    · refine ⟨val, fun {k Q} et q => ?_⟩
      simp only [ap1] at hp
      split at hp <;> try (simp only [Option.some.injEq, reduceCtorEq] at hp)
      rename_i b hb
      subst hp
      simp only [tru, Option.some.injEq] at et
      subst et
      exact toTW (pt_not ptW) (i2 hb fun H' k => q H' k)
    · exact tt (L := L) ht val
  | o2 o a b iha ihb =>
    intro e h L σ ws H F d l hp
    simp only [chkP] at h
    split at h <;> try (exact absurd h Bool.false_ne_true)
    rename_i x y he
    simp only [Bool.and_eq_true] at h
    simp only [pur] at hp
    split at hp <;> try (simp only [reduceCtorEq] at hp)
    rename_i da db hda hdb
    refine tt (L := L) (ast2_ttOk he) fun {Q} q => ?_
    refine o2_ok G he ((iha x h.1 l hda).1 fun v H1 pv => (ihb y h.2 (pv.ka.lreps l) hdb).1 fun u H2 pu => ?_)
    obtain ⟨W1, r, m1, m2⟩ := pv.ex
    obtain ⟨W2, r2, _⟩ := pu.ex
    refine ⟨F, F, da, db, d, W1, W2, pu.ka.reps r, r2, hp, fun v' H' W' k rr sb => q v' H' ⟨(pv.ka.trans pu.ka).trans k, W', rr, fun a m => m1 a (sb.subset m), fun i hi a m => ?_⟩⟩
    cases o <;> simp only [P.root, reduceCtorEq] at hi
    exact m2 i hi a (sb.subset m)
  | and a b iha ihb =>
    intro e h L σ ws H F d l hp
    simp only [chkP] at h
    split at h <;> try (exact absurd h Bool.false_ne_true)
    rename_i x y zs pos
    simp only [Bool.and_eq_true] at h
    simp only [pur] at hp
    split at hp <;> try (simp only [Option.some.injEq, reduceCtorEq] at hp)
    · rename_i hda
      obtain ⟨a1, a2⟩ := iha x h.1 l hda
      refine ⟨fun {Q} q => toW (pe_and peW tailPE) (a1 fun v H1 pv => ?_), fun {k Q} et q => toTW (PW.pt (pw_and ptW tailAnd)) (a2 (k := true) rfl fun H1 k1 => ?_)⟩
      · obtain ⟨W1, r, _⟩ := pv.ex
        refine ⟨true, r.blI, ?_⟩
        rw [if_pos rfl]
        refine (ihb _ h.2 (pv.ka.lreps l) hp).1 fun u H2 pu => q u H2 ⟨pv.ka.trans pu.ka, ?_⟩
        obtain ⟨W2, r2, m, _⟩ := pu.ex
        exact ⟨W2, r2, m, fun i hi => by simp [P.root] at hi⟩
      · rw [if_pos rfl]
        exact (ihb _ h.2 (k1.lreps l) hp).2 et fun H2 k2 => q H2 (k1.trans k2)
    · rename_i hda
      subst hp
      obtain ⟨a1, a2⟩ := iha x h.1 l hda
      refine ⟨fun {Q} q => toW (pe_and peW tailPE) (a1 fun v H1 pv => ?_), fun {k Q} et q => toTW (PW.pt (pw_and ptW tailAnd)) (a2 (k := false) rfl fun H1 k1 => ?_)⟩
      · obtain ⟨W1, r, _⟩ := pv.ex
        refine ⟨false, r.blI, ?_⟩
        rw [if_neg Bool.false_ne_true]
        exact q _ H1 ⟨pv.ka, [], .bl .nil, (fun a m => nomatch m), fun _ _ a m => nomatch m⟩
      · rw [if_neg Bool.false_ne_true]
        simp only [tru, Option.some.injEq] at et
        subst et
        exact q H1 k1
  | or a b iha ihb =>
    intro e h L σ ws H F d l hp
    simp only [chkP] at h
    split at h <;> try (exact absurd h Bool.false_ne_true)
    rename_i x y zs pos
    simp only [Bool.and_eq_true] at h
    simp only [pur] at hp
    split at hp <;> try (simp only [Option.some.injEq, reduceCtorEq] at hp)
    · rename_i hda
      obtain ⟨a1, a2⟩ := iha x h.1 l hda
      refine ⟨fun {Q} q => toW (pe_or peW tailPE) (a1 fun v H1 pv => ?_), fun {k Q} et q => toTW (PW.pt (pw_or ptW tailOr)) (a2 (k := false) rfl fun H1 k1 => ?_)⟩
      · obtain ⟨W1, r, _⟩ := pv.ex
        refine ⟨false, r.blI, ?_⟩
        rw [if_neg Bool.false_ne_true]
        refine (ihb _ h.2 (pv.ka.lreps l) hp).1 fun u H2 pu => q u H2 ⟨pv.ka.trans pu.ka, ?_⟩
        obtain ⟨W2, r2, m, _⟩ := pu.ex
        exact ⟨W2, r2, m, fun i hi => by simp [P.root] at hi⟩
      · rw [if_neg Bool.false_ne_true]
        exact (ihb _ h.2 (k1.lreps l) hp).2 et fun H2 k2 => q H2 (k1.trans k2)
    · rename_i hda
      subst hp
      obtain ⟨a1, a2⟩ := iha x h.1 l hda
      refine ⟨fun {Q} q => toW (pe_or peW tailPE) (a1 fun v H1 pv => ?_), fun {k Q} et q => toTW (PW.pt (pw_or ptW tailOr)) (a2 (k := true) rfl fun H1 k1 => ?_)⟩
      · obtain ⟨W1, r, _⟩ := pv.ex
        refine ⟨true, r.blI, ?_⟩
        rw [if_pos rfl]
        exact q _ H1 ⟨pv.ka, [], .bl .nil, (fun a m => nomatch m), fun _ _ a m => nomatch m⟩
      · rw [if_pos rfl]
        simp only [tru, Option.some.injEq] at et
        subst et
        exact q H1 k1
  | ife c a b ihc iha ihb =>
    intro e h L σ ws H F d l hp
    simp only [chkP] at h
    split at h <;> try (exact absurd h Bool.false_ne_true)
    rename_i t x y pos
    simp only [Bool.and_eq_true] at h
    simp only [pur] at hp
    split at hp <;> try (simp only [reduceCtorEq] at hp)
    rename_i dc hdc
    obtain ⟨c1, c2⟩ := ihc t h.1.1 l hdc
    split at hp <;> try (simp only [reduceCtorEq] at hp)
    · rename_i hk
      refine ⟨fun {Q} q => toW (pe_ifExp ptW peW peW) (c2 hk fun H1 k1 => ?_), fun {k Q} et q => ifT (c2 hk fun H1 k1 => ?_)⟩
      · rw [if_pos rfl]
        refine (iha _ h.1.2 (k1.lreps l) hp).1 fun u H2 pu => q u H2 ⟨k1.trans pu.ka, ?_⟩
        obtain ⟨W2, r2, m, _⟩ := pu.ex
        exact ⟨W2, r2, m, fun i hi => by simp [P.root] at hi⟩
      · rw [if_pos rfl]
        exact (iha _ h.1.2 (k1.lreps l) hp).2 et fun H2 k2 => q H2 (k1.trans k2)
    · rename_i hk
      refine ⟨fun {Q} q => toW (pe_ifExp ptW peW peW) (c2 hk fun H1 k1 => ?_), fun {k Q} et q => ifT (c2 hk fun H1 k1 => ?_)⟩
      · rw [if_neg Bool.false_ne_true]
        refine (ihb _ h.2 (k1.lreps l) hp).1 fun u H2 pu => q u H2 ⟨k1.trans pu.ka, ?_⟩
        obtain ⟨W2, r2, m, _⟩ := pu.ex
        exact ⟨W2, r2, m, fun i hi => by simp [P.root] at hi⟩
      · rw [if_neg Bool.false_ne_true]
        exact (ihb _ h.2 (k1.lreps l) hp).2 et fun H2 k2 => q H2 (k1.trans k2)
end
end Q

namespace Q
open PySem L2 PySem.Spec

/-! ## what lies behind -/
def PostVs (K : PySem.W.Frag) (H : Hp) (F : Addr → Prop) (W : List Addr) (σ : L2.St) (ds : List D) (L' : Lcs) (vs : List V) (H' : Hp) : Prop :=
  ∃ (F' : Addr → Prop) (W1 : List Addr) (ws' : List (List Addr)), Reps K H' F' ds vs W1 ∧ LReps K H' F' L' σ ws' ∧ Wf H' F' (W1 ++ ws'.flatten) ∧ Ext H F W H' F' (W1 ++ ws'.flatten)
def PostR (K : PySem.W.Frag) (H : Hp) (F : Addr → Prop) (W : List Addr) (σ : L2.St) (d : D) (L' : Lcs) (v : V) (H' : Hp) : Prop :=
  ∃ (F' : Addr → Prop) (W1 : List Addr) (ws' : List (List Addr)), Reps K H' F' [d] [v] W1 ∧ LReps K H' F' L' σ ws' ∧ Wf H' F' ws'.flatten ∧ Ext H F W H' F' ws'.flatten
def PostT (K : PySem.W.Frag) (H : Hp) (F : Addr → Prop) (W : List Addr) (σ : L2.St) (L' : Lcs) (H' : Hp) : Prop :=
  ∃ (F' : Addr → Prop) (ws' : List (List Addr)), LReps K H' F' L' σ ws' ∧ Wf H' F' ws'.flatten ∧ Ext H F W H' F' ws'.flatten
theorem PostVs.toR {K : PySem.W.Frag} {H H' : Hp} {F : Addr → Prop} {W : List Addr} {σ : L2.St} {d : D} {L' : Lcs} {v : V} (h : PostVs K H F W σ [d] L' [v] H') : PostR K H F W σ d L' v H' := by
  obtain ⟨F', W1, ws', r, l, w, x⟩ := h
  exact ⟨F', W1, ws', r, l, w.right, x.sub fun c m => List.mem_append_right _ m⟩

/-- a result, and what is wanted of it -/
def After {α : Type} (K : PySem.W.Frag) (mg : Str → Option Value) (EX : XK) (H : Hp) (F : Addr → Prop) (W : List Addr) (r : Res (α × Lcs)) (post : α → Lcs → Prop) : Prop :=
  match r with
  | .ok (a, L') => post a L'
  | .exn c x => ∀ cls dd H' F', ExOk K mg H' F' c x cls dd → Ext H F W H' F' [] → EX cls dd H'
  | .bad => False
section
variable {K : PySem.W.Frag} {mg : Str → Option Value} {EX : XK} {H H1 : Hp} {F F1 : Addr → Prop} {W W1 W2 : List Addr} {α : Type} {r : Res (α × Lcs)} {post : α → Lcs → Prop}
theorem After.step (h : After K mg EX H F W r post) (x : Ext H F W H1 F1 W1) (s : ∀ a ∈ W2, a ∈ W1) : After K mg EX H1 F1 W2 r post := by
  cases r with
  | ok a => exact h
  | exn c d => exact fun cls dd H' F' e y => h cls dd H' F' e (x.trans (y.wid s))
  | bad => exact h
end

section
variable {X : Cx} {Z : EnvQ} {Γ : Gam} {EX : XK} {σ : L2.St} {H : Hp} {F : Addr → Prop} {W : List Addr}
def GoalE (X : Cx) (EX : XK) (e : Expr) (σ : L2.St) (H : Hp) (F : Addr → Prop) (W : List Addr) (r : Res (D × Lcs)) : Prop :=
  ∀ Q : VK, After X.K X.mg EX H F W r (fun d L' => ∀ v H', PostVs X.K H F W σ [d] L' [v] H' → Q v H') → tW X e σ H Q
def GoalR (X : Cx) (EX : XK) (e : Expr) (σ : L2.St) (H : Hp) (F : Addr → Prop) (W : List Addr) (r : Res (D × Lcs)) : Prop :=
  ∀ Q : VK, After X.K X.mg EX H F W r (fun d L' => ∀ v H', PostR X.K H F W σ d L' v H' → Q v H') → tW X e σ H Q
def GoalT (X : Cx) (EX : XK) (e : Expr) (σ : L2.St) (H : Hp) (F : Addr → Prop) (W : List Addr) (r : Res (Bool × Lcs)) : Prop :=
  ∀ Q : Bool → Hp → Prop, After X.K X.mg EX H F W r (fun b L' => ∀ H', PostT X.K H F W σ L' H' → Q b H') → ttW X e σ H Q
def GoalA (X : Cx) (EX : XK) (es : List Expr) (σ : L2.St) (H : Hp) (F : Addr → Prop) (W : List Addr) (r : Res (List D × Lcs)) : Prop :=
  ∀ Q : List V → Hp → Prop, After X.K X.mg EX H F W r (fun ds L' => ∀ vs H', PostVs X.K H F W σ ds L' vs H' → Q vs H') → taW X es σ H Q
theorem GoalE.use {e : Expr} {r : Res (D × Lcs)} {β : Type} {f : D × Lcs → Res (β × Lcs)} {post : β → Lcs → Prop} (g : GoalE X EX e σ H F W r) (h : After X.K X.mg EX H F W (r.bind f) post) {R : VK}
    (k : ∀ d L1 v H1, After X.K X.mg EX H F W (f (d, L1)) post → PostVs X.K H F W σ [d] L1 [v] H1 → R v H1) : tW X e σ H R := by
  refine g R ?_
  cases r with
  | ok a => obtain ⟨d, L1⟩ := a; exact fun v H' p => k d L1 v H' h p
  | exn c x => exact h
  | bad => exact h
theorem GoalR.use {e : Expr} {r : Res (D × Lcs)} {β : Type} {f : D × Lcs → Res (β × Lcs)} {post : β → Lcs → Prop} (g : GoalR X EX e σ H F W r) (h : After X.K X.mg EX H F W (r.bind f) post) {R : VK}
    (k : ∀ d L1 v H1, After X.K X.mg EX H F W (f (d, L1)) post → PostR X.K H F W σ d L1 v H1 → R v H1) : tW X e σ H R := by
  refine g R ?_
  cases r with
  | ok a => obtain ⟨d, L1⟩ := a; exact fun v H' p => k d L1 v H' h p
  | exn c x => exact h
  | bad => exact h
theorem GoalT.use {e : Expr} {r : Res (Bool × Lcs)} {β : Type} {f : Bool × Lcs → Res (β × Lcs)} {post : β → Lcs → Prop} (g : GoalT X EX e σ H F W r) (h : After X.K X.mg EX H F W (r.bind f) post) {R : Bool → Hp → Prop}
    (k : ∀ d L1 H1, After X.K X.mg EX H F W (f (d, L1)) post → PostT X.K H F W σ L1 H1 → R d H1) : ttW X e σ H R := by
  refine g R ?_
  cases r with
  | ok a => obtain ⟨d, L1⟩ := a; exact fun H' p => k d L1 H' h p
  | exn c x => exact h
  | bad => exact h
theorem GoalA.use {es : List Expr} {r : Res (List D × Lcs)} {β : Type} {f : List D × Lcs → Res (β × Lcs)} {post : β → Lcs → Prop} (g : GoalA X EX es σ H F W r) (h : After X.K X.mg EX H F W (r.bind f) post) {R : List V → Hp → Prop}
    (k : ∀ d L1 v H1, r = .ok (d, L1) → After X.K X.mg EX H F W (f (d, L1)) post → PostVs X.K H F W σ d L1 v H1 → R v H1) : taW X es σ H R := by
  refine g R ?_
  cases r with
  | ok a => obtain ⟨d, L1⟩ := a; exact fun v H' p => k d L1 v H' rfl h p
  | exn c x => exact h
  | bad => exact h
theorem After.of {α : Type} {K : PySem.W.Frag} {mg : Str → Option Value} {o : Option α} {L : Lcs} {post : α → Lcs → Prop} (h : After K mg EX H F W ((Res.of o).bind fun x => .ok (x, L)) post) : ∃ x, o = some x ∧ post x L := by
  cases o with
  | none => exact h.elim
  | some x => exact ⟨x, rfl, h⟩
theorem After.ofB {α β : Type} {K : PySem.W.Frag} {mg : Str → Option Value} {o : Option α} {f : α → Res (β × Lcs)} {post : β → Lcs → Prop} (h : After K mg EX H F W ((Res.of o).bind f) post) : ∃ x, o = some x ∧ After K mg EX H F W (f x) post := by
  cases o with
  | none => exact h.elim
  | some x => exact ⟨x, rfl, h⟩
theorem After.bool {β : Type} {K : PySem.W.Frag} {mg : Str → Option Value} {d : D} {f : Bool → Res (β × Lcs)} {post : β → Lcs → Prop} (h : After K mg EX H F W ((bool? d).bind f) post) : ∃ k, d = .bl k ∧ After K mg EX H F W (f k) post := by
  cases d with
  | bl k => exact ⟨k, rfl, h⟩
  | _ => exact h.elim

/-! ### slots frozen -/
theorem fz_one {K : PySem.W.Frag} {d : D} {v : V} {W1 : List Addr} {F' : Addr → Prop} (r : Reps K H F [d] [v] W1) (hF : ∀ a, F a → F' a) (hW : ∀ a ∈ W1, F' a) : Reps K H F' [d.fz] [v] [] := by
  have := r.fz hF hW
  simpa [D.fzs] using this
theorem LReps.up {K : PySem.W.Frag} {F' : Addr → Prop} {L : Lcs} {ws : List (List Addr)} (l : LReps K H F L σ ws) (hF : ∀ a, F a → F' a) : LReps K H F' L σ ws :=
  l.frame (B := []) (fun a o h _ => h) (fun a m => nomatch m) (fun a _ m => nomatch m) (fun a _ m => nomatch m) hF
theorem Reps.up {K : PySem.W.Frag} {F' : Addr → Prop} {ds : List D} {vs : List V} {W1 : List Addr} (r : Reps K H F ds vs W1) (hF : ∀ a, F a → F' a) : Reps K H F' ds vs W1 :=
  r.frame (B := []) (fun a o h _ => h) (fun a m => nomatch m) (fun a _ m => nomatch m) (fun a _ m => nomatch m) hF
/-- the slot i is frozen: its addresses go to those that stay; the rest W0 ++ .. is as before -/
theorem freeze {K : PySem.W.Frag} {L : Lcs} {ws : List (List Addr)} {W0 : List Addr} (l : LReps K H F L σ ws) (w : Wf H F (W0 ++ ws.flatten)) (i : Nat) :
    LReps K H (fun a => F a ∨ a ∈ ws.getD i []) (fzAt L i) σ (ws.set i []) ∧ Wf H (fun a => F a ∨ a ∈ ws.getD i []) (W0 ++ (ws.set i []).flatten) ∧ Ext H F (W0 ++ ws.flatten) H (fun a => F a ∨ a ∈ ws.getD i []) (W0 ++ (ws.set i []).flatten) := by
  have sb : (ws.set i []).flatten.Sublist ws.flatten := flat_none i
  refine ⟨?_, ⟨w.nd.sublist (List.Sublist.append (List.Sublist.refl _) sb), fun a m z => ?_, fun a f => ?_⟩, ⟨fun a o h _ => h, fun a m => .inl ?_, fun a f => .inl f, fun a f => ?_, fun a h => h⟩⟩
  · unfold fzAt
    cases e : L[i]? with
    | none =>
      have : L.length ≤ i := List.getElem?_eq_none_iff.mp e
      have hl := l.length
      rw [List.set_eq_of_length_le (by omega)]
      exact l.up fun a f => .inl f
    | some o =>
      cases o with
      | none =>
        have : ws.set i [] = ws ∨ True := .inr trivial
        have l2 := l.forget i
        have e2 : L.set i none = L := by
          apply List.ext_getElem?
          intro j
          by_cases hj : i = j
          · subst hj
            rw [e, List.getElem?_set_self (List.getElem?_eq_some_iff.mp e).1]
          · rw [List.getElem?_set_ne hj]
        rw [e2] at l2
        exact l2.up fun a f => .inl f
      | some d =>
        obtain ⟨v, e1, r, hi⟩ := l.get e
        have r' := fz_one (F' := fun a => F a ∨ a ∈ ws.getD i []) r (fun a f => .inl f) (fun a m => .inr m)
        exact (l.up (F' := fun a => F a ∨ a ∈ ws.getD i []) fun a f => .inl f).put e1 r'
  · rcases z with z | z
    · rcases List.mem_append.mp m with m | m
      · exact w.dj a (List.mem_append_left _ m) z
      · exact w.dj a (List.mem_append_right _ (sb.subset m)) z
    · have hi : i < ws.length := by
        by_cases hi : i < ws.length
        · exact hi
        · rw [List.getD_eq_getElem?_getD, List.getElem?_eq_none (by omega)] at z; simp at z
      have nd := w.nd
      have p := flat_take (ws := ws) (i := i) hi
      rcases List.mem_append.mp m with m | m
      · have := List.nodup_append.mp nd
        exact this.2.2 a m a (p.mem_iff.mpr (List.mem_append_left _ z)) rfl
      · have nd2 := p.nodup_iff.mp (List.nodup_append.mp nd).2.1
        exact (List.nodup_append.mp nd2).2.2 a z a m rfl
  · rcases f with f | f
    · exact w.tr a f
    · exact (l.muts a (flat_mem f)).some
  · rcases List.mem_append.mp m with m | m
    · exact List.mem_append_left _ m
    · exact List.mem_append_right _ (sb.subset m)
  · rcases f with f | f
    · exact .inl f
    · exact .inr (.inl (List.mem_append_right _ (flat_mem f)))

/-- a pure expression's value for keeps -/
theorem keep_ok (G : Good X Z Γ EX) {p : P} {e : Expr} (h : chkP Γ p e = true) {L : Lcs} {ws : List (List Addr)} (l : LReps X.K H F L σ ws) (w : Wf H F ws.flatten) : GoalE X EX e σ H F ws.flatten (keepP Z.G p L) := by
  intro Q q
  unfold keepP at q
  cases hp : pur Z.G p L with
  | none => rw [hp] at q; exact q.elim
  | some d =>
    rw [hp] at q
    simp only at q
    refine (soundP G p e h l hp).1 fun v H' pv => ?_
    obtain ⟨W1, r, m1, m2⟩ := pv.ex
    split at q
    · rename_i hn
      have e1 := r.noOwn (by simpa [D.noOwns] using hn)
      subst e1
      exact q v H' ⟨F, [], ws, r, pv.ka.lreps l, by simpa using pv.ka.wf w, by simpa using pv.ka.ext⟩
    · split at q
      · rename_i i hi
        obtain ⟨l2, w2, x2⟩ := freeze (W0 := []) (pv.ka.lreps l) (by simpa using pv.ka.wf w) i
        refine q v H' ⟨_, [], _, fz_one r (fun a f => .inl f) (fun a m => .inr (m2 i hi a m)), l2, by simpa using w2, ?_⟩
        exact (pv.ka.ext (F := F) (W := ws.flatten)).trans (by simpa using x2)
      · exact q.elim
end
end Q

namespace Q
open PySem L2 PySem.Spec

/-! ## targets -/
def tgW (X : Cx) (e : Expr) : TG := fun v σ H Q => ∀ pins s u, Inv X pins σ H s → RelV v u → wpAny (model X.prog X.w) X.A (assign e X.env u) (fun _ s' => ∃ σ' H', Inv X pins σ' H' s' ∧ Q σ' H') X.xe s
theorem pgW {X : Cx} {e : Expr} : PG X e (tgW X e) := ⟨fun pins s σ H v u Q I r h => h pins s u I r⟩
theorem toG {X : Cx} {e : Expr} {t : TG} (h : PG X e t) {v : V} {σ : L2.St} {H : Hp} {Q : L2.St → Hp → Prop} (q : t v σ H Q) : tgW X e v σ H Q := fun pins s u I r => h.run pins s σ H v u Q I r q

def nmOk (Γ : Gam) (i : Nat) : Expr → Bool
  | .Name x _ => decide (Γ.N[i]? = some x) && decide (x ∈ Γ.wr)
  | _ => false
def nmsOk (Γ : Gam) : List Nat → List Expr → Bool
  | [], [] => true
  | i :: is, e :: es => nmOk Γ i e && nmsOk Γ is es
  | _, _ => false
def chkTg (Γ : Gam) : Tg → Expr → Bool
  | .nm i, e => nmOk Γ i e
  | .tup is, e => match e with | .Tuple es _ _ => nmsOk Γ is es | _ => false
def Tg.slots : Tg → List Nat
  | .nm i => [i]
  | .tup is => is
def setAll (σ : L2.St) : List Nat → List V → L2.St
  | i :: is, v :: vs => setAll (σ.set i (some v)) is vs
  | _, _ => σ
def setAllL (L : Lcs) : List Nat → List D → Lcs
  | i :: is, d :: ds => setAllL (L.set i (some d)) is ds
  | _, _ => L
def setAllW (ws : List (List Addr)) : List Nat → List (List Addr) → List (List Addr)
  | i :: is, w :: r => setAllW (ws.set i w) is r
  | _, _ => ws
theorem foldl_setAll : ∀ (is : List Nat) (ds : List D) (L : Lcs), (is.zip ds).foldl (fun L p => L.set p.1 (some p.2)) L = setAllL L is ds
  | [], _, _ => by simp [setAllL]
  | _ :: _, [], _ => by simp [setAllL]
  | i :: is, d :: ds, L => by simp only [List.zip_cons_cons, List.foldl_cons, setAllL]; exact foldl_setAll is ds _

section
variable {X : Cx} {Z : EnvQ} {Γ : Gam} {EX : XK} {K : PySem.W.Frag} {σ : L2.St} {H : Hp} {F : Addr → Prop} {W : List Addr}
theorem nmOk_out {i : Nat} {e : Expr} (h : nmOk Γ i e = true) : ∃ x pos, e = .Name x pos ∧ Γ.N[i]? = some x ∧ x ∈ Γ.wr := by
  cases e <;> simp only [nmOk, Bool.and_eq_true, decide_eq_true_eq, Bool.false_eq_true] at h
  exact ⟨_, _, rfl, h.1, h.2⟩
theorem nm_pg (G : Good X Z Γ EX) {i : Nat} {e : Expr} (h : nmOk Γ i e = true) : PG X e (gName i) := by
  obtain ⟨x, pos, rfl, h1, h2⟩ := nmOk_out h
  obtain ⟨a, b⟩ := G.wr x h2
  exact pg_name (by rw [G.N]; exact G.nd) (by rw [G.N]; exact h1) a b

/-- storing into slots -/
theorem store_one {L : Lcs} {ws : List (List Addr)} {i : Nat} {d : D} {v : V} {W1 W2 : List Addr} (l : LReps K H F L σ ws) (r : Reps K H F [d] [v] W1) (w : Wf H F (W1 ++ (W2 ++ ws.flatten))) :
    LReps K H F (L.set i (some d)) (σ.set i (some v)) (ws.set i W1) ∧ Wf H F (W2 ++ (ws.set i W1).flatten) ∧ (∀ a ∈ (ws.set i W1).flatten, a ∈ W1 ∨ a ∈ ws.flatten) := by
  have l2 := l.store (i := i) r
  by_cases hi : i < ws.length
  · have p := flat_set (W := W1) hi
    have sb : (ws.set i []).flatten.Sublist ws.flatten := flat_none i
    refine ⟨l2, ?_, fun a m => ?_⟩
    · have w2 : Wf H F (W1 ++ (W2 ++ (ws.set i []).flatten)) := w.sub (List.Sublist.append (List.Sublist.refl _) (List.Sublist.append (List.Sublist.refl _) sb))
      refine w2.perm ?_
      rw [← List.append_assoc]
      refine (List.Perm.append_right _ List.perm_append_comm).trans ?_
      rw [List.append_assoc]
      exact List.Perm.append_left _ p.symm
    · rcases List.mem_append.mp (p.mem_iff.mp m) with m | m
      · exact .inl m
      · exact .inr (sb.subset m)
  · have e : ws.set i W1 = ws := List.set_eq_of_length_le (by omega)
    rw [e] at l2 ⊢
    exact ⟨l2, w.right, fun a m => .inr m⟩
theorem store_all : ∀ {is : List Nat} {ds : List D} {vs : List V} {W1 : List Addr} {L : Lcs} {σ : L2.St} {ws : List (List Addr)} {W2 : List Addr}, is.length = ds.length → LReps K H F L σ ws → Reps K H F ds vs W1 → Wf H F (W1 ++ (W2 ++ ws.flatten)) →
    ∃ ws', LReps K H F (setAllL L is ds) (setAll σ is vs) ws' ∧ Wf H F (W2 ++ ws'.flatten) ∧ ∀ a ∈ ws'.flatten, a ∈ W1 ∨ a ∈ ws.flatten
  | [], [], vs, W1, L, σ, ws, W2, _, l, r, w => by cases r; exact ⟨ws, l, by simpa using w, fun a m => .inr m⟩
  | i :: is, d :: ds, [], _, _, _, _, _, _, _, r, _ => by cases r
  | i :: is, d :: ds, v :: vs, _, L, σ, ws, W2, hl, l, r, w => by
    obtain ⟨Wa, Wb, rfl, ra, rb⟩ := Reps.cons_iff.mp r
    have w1 : Wf H F (Wa ++ ((Wb ++ W2) ++ ws.flatten)) := by simpa [List.append_assoc] using w
    obtain ⟨l1, w2, m1⟩ := store_one (i := i) l ra w1
    obtain ⟨ws', l2, w3, m2⟩ := store_all (is := is) (W2 := W2) (by simpa using hl) l1 rb (by simpa [List.append_assoc] using w2)
    refine ⟨ws', l2, w3, fun a m => ?_⟩
    rcases m2 a m with z | z
    · exact .inl (List.mem_append_right _ z)
    · rcases m1 a z with z | z
      · exact .inl (List.mem_append_left _ z)
      · exact .inr z
  | [], _ :: _, _, _, _, _, _, _, hl, _, _, _ => by simp at hl
  | _ :: _, [], _, _, _, _, _, _, hl, _, _, _ => by simp at hl

theorem assignEach_nms {env : PySem.Env} : ∀ {is : List Nat} {es : List Expr}, nmsOk Γ is es = true → (assignEach es env).length = es.length ∧ (assignEach es env).findIdx? (·.1) = none ∧ is.length = es.length
  | [], [], _ => ⟨rfl, rfl, rfl⟩
  | i :: is, e :: es, h => by
    simp only [nmsOk, Bool.and_eq_true] at h
    obtain ⟨x, pos, rfl, _⟩ := nmOk_out h.1
    obtain ⟨a, b, c⟩ := assignEach_nms (env := env) h.2
    refine ⟨?_, ?_, by simp [c]⟩
    · show ((false, assign (.Name x pos) env) :: assignEach es env).length = _
      simp [a]
    · show ((false, assign (.Name x pos) env) :: assignEach es env).findIdx? (·.1) = none
      simp [List.findIdx?_cons, b]
  | [], _ :: _, h => by simp [nmsOk] at h
  | _ :: _, [], h => by simp [nmsOk] at h
/-- the names, one after another -/
theorem nms_pgs (G : Good X Z Γ EX) : ∀ {is : List Nat} {es : List Expr}, nmsOk Γ is es = true → ∃ t, PGs X es t ∧ ∀ (vs : List V) (σ : L2.St) (H : Hp) (Q : L2.St → Hp → Prop), vs.length = is.length → Q (setAll σ is vs) H → t vs σ H Q
  | [], [], _ => ⟨gNil, pgs_nil, fun vs σ H Q hl q => by
      cases vs with
      | nil => exact ⟨rfl, q⟩
      | cons _ _ => simp at hl⟩
  | i :: is, e :: es, h => by
    simp only [nmsOk, Bool.and_eq_true] at h
    obtain ⟨t, p, q⟩ := nms_pgs G h.2
    obtain ⟨x, pos, rfl, _⟩ := nmOk_out h.1
    refine ⟨gCons (gName i) t, pgs_cons (nm_pg G h.1) p (by rfl), fun vs σ H Q hl hq => ?_⟩
    cases vs with
    | nil => simp at hl
    | cons v vs => exact ⟨v, vs, rfl, q vs _ _ _ (by simpa using hl) hq⟩
  | [], _ :: _, h => by simp [nmsOk] at h
  | _ :: _, [], h => by simp [nmsOk] at h

/-- a target is bound -/
theorem tg_ok (G : Good X Z Γ EX) {tg : Tg} {e : Expr} (h : chkTg Γ tg e = true) {L L1 : Lcs} {ws : List (List Addr)} {d : D} {v : V} {W1 W2 : List Addr} (l : LReps X.K H F L σ ws) (r : Reps X.K H F [d] [v] W1) (w : Wf H F (W1 ++ (W2 ++ ws.flatten)))
    (hs : tg.set d L = some L1) {Q : L2.St → Hp → Prop} (q : ∀ us ws', LReps X.K H F L1 (setAll σ tg.slots us) ws' → Wf H F (W2 ++ ws'.flatten) → (∀ a ∈ ws'.flatten, a ∈ W1 ∨ a ∈ ws.flatten) → Q (setAll σ tg.slots us) H) : tgW X e v σ H Q := by
  cases tg with
  | nm i =>
    simp only [Tg.set, Option.some.injEq] at hs
    subst hs
    obtain ⟨l1, w1, m1⟩ := store_one (i := i) l r w
    exact toG (nm_pg G h) (q [v] _ l1 w1 m1)
  | tup is =>
    simp only [chkTg] at h
    split at h <;> try (exact absurd h Bool.false_ne_true)
    rename_i es k pos
    obtain ⟨a1, a2, a3⟩ := assignEach_nms (env := X.env) h
    obtain ⟨t, p, k2⟩ := nms_pgs G h
    cases d <;> simp only [Tg.set, reduceCtorEq] at hs
    rename_i ds
    split at hs <;> try (simp only [reduceCtorEq] at hs)
    rename_i hl
    simp only [Option.some.injEq] at hs
    rw [foldl_setAll] at hs
    subst hs
    obtain ⟨a, us, rfl, s, r1⟩ := r.tupI
    obtain ⟨ws', l1, w1, m1⟩ := store_all hl l r1 w
    have hu := r1.length
    exact toG (pg_tup (n := es.length) G.calm p a1 a2) ⟨a, us, rfl, s, by omega, k2 us σ H Q (by omega) (q us ws' l1 w1 m1)⟩

/-! ### wiped slots -/
theorem wipe_set {σ : L2.St} {i : Nat} {x : Option V} : ∀ {vs : List Nat}, i ∈ vs → wipe (σ.set i x) vs = wipe σ vs
  | [], h => by cases h
  | v :: vs, h => by
    unfold wipe
    by_cases hv : i ∈ vs
    · rw [wipe_set hv]
    · have e : i = v := by rcases List.mem_cons.mp h with h | h; exact h; exact absurd h hv
      subst e
      have : wipe (σ.set i x) vs = (wipe σ vs).set i x := by
        clear h
        induction vs with
        | nil => rfl
        | cons u us ih =>
          unfold wipe
          rw [ih (fun m => hv (List.mem_cons_of_mem _ m)), List.set_comm]
          intro e; exact hv (by rw [e]; exact List.mem_cons_self)
      rw [this, List.set_set]
theorem wipe_all {vs : List Nat} : ∀ {is : List Nat} {us : List V} {σ : L2.St}, (∀ i ∈ is, i ∈ vs) → wipe (setAll σ is us) vs = wipe σ vs
  | [], _, _, _ => by simp [setAll]
  | _ :: _, [], _, _ => by simp [setAll]
  | i :: is, u :: us, σ, h => by
    simp only [setAll]
    rw [wipe_all (fun j m => h j (List.mem_cons_of_mem _ m)), wipe_set (h i List.mem_cons_self)]
theorem wipe_wipe {σ : L2.St} : ∀ {us vs : List Nat}, (∀ i ∈ us, i ∈ vs) → wipe (wipe σ us) vs = wipe σ vs
  | [], vs, _ => rfl
  | u :: us, vs, h => by
    show wipe ((wipe σ us).set u none) vs = _
    rw [wipe_set (h u List.mem_cons_self), wipe_wipe fun i m => h i (List.mem_cons_of_mem _ m)]
def wipeWs (ws : List (List Addr)) : List Nat → List (List Addr)
  | [] => ws
  | v :: vs => (wipeWs ws vs).set v []
theorem wipeWs_sub {ws : List (List Addr)} : ∀ {vs : List Nat}, (wipeWs ws vs).flatten.Sublist ws.flatten
  | [] => List.Sublist.refl _
  | v :: vs => (flat_none v).trans wipeWs_sub
theorem LReps.wipe {L : Lcs} {ws : List (List Addr)} (l : LReps K H F L σ ws) : ∀ (vs : List Nat), LReps K H F (wipeL L vs) (L2.wipe σ vs) (wipeWs ws vs)
  | [] => l
  | v :: vs => (l.wipe vs).drop v none
/-- one slot stands as before -/
theorem LReps.unset {L : Lcs} {ws : List (List Addr)} {i : Nat} {σ : L2.St} (l : LReps K H F L (σ.set i none) ws) (hn : ∀ (o : Option D), L[i]? = some o → o = none) : LReps K H F L σ ws := by
  induction L generalizing σ ws i with
  | nil =>
    cases σ with
    | nil => cases i <;> exact l
    | cons y σ => cases i <;> (simp only [List.set_cons_zero, List.set_cons_succ] at l; cases l)
  | cons x L ih =>
    cases σ with
    | nil => cases i <;> (simp only [List.set_nil] at l; exact l)
    | cons y σ =>
      cases i with
      | zero =>
        simp only [List.set_cons_zero] at l
        have e := hn x (by simp)
        subst e
        cases l with
        | skip l => exact .skip l
      | succ i =>
        simp only [List.set_cons_succ] at l
        cases l with
        | skip l => exact .skip (ih l fun o e => hn o (by simpa using e))
        | cons r l => exact .cons r (ih l fun o e => hn o (by simpa using e))
theorem wipeL_get {L : Lcs} {v : Nat} : ∀ {vs : List Nat} (o : Option D), v ∈ vs → (wipeL L vs)[v]? = some o → o = none
  | [], _, h, _ => by cases h
  | u :: us, o, h, e => by
    unfold wipeL at e
    by_cases hu : u = v
    · subst hu
      by_cases hl : u < (wipeL L us).length
      · rw [List.getElem?_set_self hl] at e; simp at e; exact e.symm
      · rw [List.getElem?_eq_none (by simpa using hl)] at e; cases e
    · rw [List.getElem?_set_ne hu] at e
      rcases List.mem_cons.mp h with h | h
      · exact absurd h.symm hu
      · exact wipeL_get o h e
/-- behind a comprehension the names stand as before -/
theorem LReps.reset {L0 : Lcs} (l0 : ∀ i d, was L0 i = some d → ∃ v, σ[i]? = some (some v) ∧ Reps K H F [d] [v] []) : ∀ {vs : List Nat} {L : Lcs} {ws : List (List Addr)}, vs.Nodup → (∀ i ∈ vs, ∀ o, L[i]? = some o → o = none) → LReps K H F L (L2.wipe σ vs) ws →
    ∃ ws', LReps K H F (resetTo L0 L vs) σ ws' ∧ ws'.flatten = ws.flatten
  | [], L, ws, _, _, l => ⟨ws, l, rfl⟩
  | v :: vs, L, ws, nd, hn, l => by
    have hv := List.nodup_cons.mp nd
    have l1 : LReps K H F L (L2.wipe σ vs) ws := LReps.unset (i := v) l (hn v List.mem_cons_self)
    have hw : ∀ x, L2.wipe σ vs = x → (L2.wipe σ vs)[v]? = σ[v]? := fun _ _ => wipe_out hv.1
    have key : ∃ ws1, LReps K H F (L.set v (was L0 v)) (L2.wipe σ vs) ws1 ∧ ws1.flatten = ws.flatten := by
      have emp : ws.set v [] = ws := by
        have hl := l.length
        have : ∀ {L : Lcs} {σ : L2.St} {ws : List (List Addr)} {v : Nat}, LReps K H F L σ ws → (∀ o, L[v]? = some o → o = none) → ws.set v [] = ws := by
          intro L σ ws v l h
          induction l generalizing v with
          | nil => simp
          | skip _ ih =>
            cases v with
            | zero => rfl
            | succ v => simp only [List.set_cons_succ]; rw [ih fun o e => h o (by simpa using e)]
          | cons r _ ih =>
            cases v with
            | zero => exact nomatch (h (some _) rfl)
            | succ v => simp only [List.set_cons_succ]; rw [ih fun o e => h o (by simpa using e)]
        exact this l (hn v List.mem_cons_self)
      cases e : was L0 v with
      | none =>
        refine ⟨ws, ?_, rfl⟩
        have := l1.forget v
        rwa [emp] at this
      | some d =>
        obtain ⟨val, e1, r⟩ := l0 v d e
        refine ⟨ws.set v [], l1.put (by rw [wipe_out hv.1]; exact e1) r, by rw [emp]⟩
    obtain ⟨ws1, l2, f2⟩ := key
    obtain ⟨ws2, l3, f3⟩ := LReps.reset l0 (vs := vs) hv.2 (fun i m o e => hn i (List.mem_cons_of_mem _ m) o (by
      have hne : v ≠ i := fun z => hv.1 (by rw [z]; exact m)
      rw [List.getElem?_set_ne hne] at e; exact e)) l2
    exact ⟨ws2, l3, by rw [f3, f2]⟩
end
end Q

namespace Q
open PySem L2 PySem.Spec

/-! ## what is walked over -/
def Kp (H0 : Hp) (F0 : Addr → Prop) (H1 : Hp) : Prop := ∀ a o, H0 a = some o → (F0 a ∨ (∃ xs, o = .tup xs) ∨ ∃ ob u, o = .frz ob u) → H1 a = some o
def LenOk (H : Hp) : Prop := ∀ a xs, (Rd H a (.lst xs) ∨ Rd H a (.tup xs)) → xs.length ≤ sizeLine
def WalkD (K : PySem.W.Frag) (H0 : Hp) (F0 : Addr → Prop) (J : It) (ds : List D) : Prop :=
  ds.length ≤ sizeLine ∧ L2.Walk J ds.length (Kp H0 F0) (fun i H x H2 => KA H H2 ∧ ∃ d, ds[i]? = some d ∧ ∀ F', (∀ a, F0 a → F' a) → Reps K H2 F' [d] [x] [])
section
variable {X : Cx} {Z : EnvQ} {Γ : Gam} {EX : XK} {K : PySem.W.Frag} {σ : L2.St} {H H0 H1 : Hp} {F F0 F1 : Addr → Prop} {W : List Addr}
theorem lenOk {pins : List (Addr × Obj)} {s : Shared} (I : Inv X pins σ H s) : LenOk H := fun a xs h => by
  rcases h with h | h
  · exact (h.ok I.hok).1
  · exact (h.ok I.hok).1
theorem tW.len {e : Expr} {Q : VK} (h : tW X e σ H Q) : tW X e σ H (fun v H' => Q v H' ∧ LenOk H') := fun pins s I =>
  thn (h pins s I) fun _ _ ⟨v, H', I', r, q⟩ => ⟨v, H', I', r, q, lenOk I'⟩
theorem taW.len {es : List Expr} {Q : List V → Hp → Prop} (h : taW X es σ H Q) : taW X es σ H (fun v H' => Q v H' ∧ LenOk H') := fun pos pins s I =>
  thn (h pos pins s I) fun _ _ ⟨v, H', I', r, q⟩ => ⟨v, H', I', r, q, lenOk I'⟩
theorem sqL_len {a : Addr} {us : List V} (h : SqL K H a us) (l : LenOk H) : us.length ≤ sizeLine := by
  rcases h with h | ⟨o, its, n, _, _, _, _, hz, r⟩
  · exact l a us (.inl h)
  · have := r.length; simp only [Array.length_toList] at this; omega
theorem sqT_len {a : Addr} {us : List V} (h : SqT K H a us) (l : LenOk H) : us.length ≤ sizeLine := by
  rcases h with h | ⟨o, its, n, _, _, _, hz, r⟩
  · exact l a us (.inr h)
  · have := r.length; simp only [Array.length_toList] at this; omega
theorem sqT_kp {a : Addr} {us : List V} (h : SqT K H0 a us) (k : Kp H0 F0 H1) : SqT K H1 a us := by
  rcases h with (h | ⟨o, h⟩) | h
  · exact .inl (.inl (k _ _ h (.inr (.inl ⟨_, rfl⟩))))
  · exact .inl (.inr ⟨o, k _ _ h (.inr (.inr ⟨_, _, rfl⟩))⟩)
  · exact .inr h
theorem frzOk_kp {a : Addr} {us : List V} (h : FrzOk K H0 F0 a us) (k : Kp H0 F0 H1) (m : ∀ a, F0 a → F1 a) : FrzOk K H1 F1 a us := by
  rcases h with ⟨h | ⟨o, h⟩, f⟩ | h
  · exact .inl ⟨.inl (k _ _ h (.inl f)), m _ f⟩
  · exact .inl ⟨.inr ⟨o, k _ _ h (.inl f)⟩, m _ f⟩
  · exact .inr h
theorem Reps.kp {ds : List D} {us : List V} (r : Reps K H0 F0 ds us W) (hW : W = []) (k : Kp H0 F0 H1) (m : ∀ a, F0 a → F1 a) : Reps K H1 F1 ds us [] := by
  induction r with
  | nil => exact .nil
  | non _ ih => exact .non (ih hW)
  | bl _ ih => exact .bl (ih hW)
  | int _ ih => exact .int (ih hW)
  | str _ ih => exact .str (ih hW)
  | tup s _ _ i1 i2 =>
    obtain ⟨h1, h2⟩ := List.append_eq_nil_iff.mp hW
    exact .tup (W1 := []) (sqT_kp s k) (i1 h1) (i2 h2)
  | sh f s _ _ i1 i2 => exact .sh (m _ f) (k _ _ s (.inl f)) (i1 rfl) (i2 hW)
  | own => cases hW
  | dsh f s e _ _ i1 i2 => exact .dsh (m _ f) (k _ _ s (.inl f)) e (i1 rfl) (i2 hW)
  | down => cases hW
  | frz f _ _ i1 i2 => exact .frz (frzOk_kp f k m) (i1 rfl) (i2 hW)
theorem Kp.of {H' : Hp} {F' : Addr → Prop} {W' : List Addr} (x : Ext H F W H' F' W') (m : ∀ a ∈ W, IsMut H a) (d : ∀ a ∈ W, ¬ F a) : Kp H F H' := fun a o h q => x.keep a o h fun z => by
  rcases q with f | ⟨xs, rfl⟩ | ⟨ob, u, rfl⟩
  · exact d a z f
  · rcases m a z with ⟨_, e⟩ | ⟨_, e⟩ <;> rw [h] at e <;> cases e
  · rcases m a z with ⟨_, e⟩ | ⟨_, e⟩ <;> rw [h] at e <;> cases e
/-- a frozen list or tuple, opened for good -/
theorem Reps.elsF {d : D} {v : V} {ds : List D} (r : Reps K H F [d] [v] []) (h : d.els = some ds) (l : LenOk H) : ∃ a us, v = .ref a ∧ us.length ≤ sizeLine ∧ Reps K H F ds us [] ∧
    (((∃ ts, d = .tup ts) ∧ ∀ H1, Kp H F H1 → SqT K H1 a us) ∨ ((∀ ts, d ≠ .tup ts) ∧ ∀ H1, Kp H F H1 → SqL K H1 a us)) := by
  cases d <;> simp only [D.els, Option.some.injEq, reduceCtorEq] at h
  · subst h
    obtain ⟨a, us, e, s, r1⟩ := r.tupI
    exact ⟨a, us, e, sqT_len s l, r1, .inl ⟨⟨_, rfl⟩, fun H1 k => sqT_kp s k⟩⟩
  · subst h
    obtain ⟨a, us, W1, e, s, r1, sb, ho, hf⟩ := r.lstI
    rename_i b ds
    cases b with
    | true => have := ho rfl; cases this
    | false =>
      obtain ⟨rfl, f⟩ := hf rfl
      exact ⟨a, us, e, l a us (.inl (.inl s)), r1, .inr ⟨(fun _ z => nomatch z), fun H1 k => SqL.of (k _ _ s (.inl f))⟩⟩
  · subst h
    obtain ⟨a, us, e, s, r1⟩ := r.frzI
    exact ⟨a, us, e, sqL_len s.sq l, r1, .inr ⟨(fun _ z => nomatch z), fun H1 k => (frzOk_kp (F1 := F) s k fun _ h => h).sq⟩⟩

/-! ### readings of sources -/
def tiW (X : Cx) (tg iter : Expr) : TI := fun σ H R => ∀ pins s, Inv X pins σ H s →
  wpAny (model X.prog X.w) X.A (eval iter X.env) (fun v s1 => wpAny (model X.prog X.w) X.A (pyIter v) (PIE X pins σ tg R) X.xe s1) X.xe s
theorem piW {tg iter : Expr} : PI X tg iter (tiW X tg iter) := ⟨fun pins s σ H R I h => h pins s I⟩
theorem toI {tg iter : Expr} {t : TI} (h : PI X tg iter t) {R : It → Hp → Prop} (q : t σ H R) : tiW X tg iter σ H R := fun pins s I => h.run pins s σ H R I q
/-- a list or a tuple -/
def iSeq (K : PySem.W.Frag) (tl : TE) : TI := fun σ H R => tl σ H fun x H1 => ∃ a us, x = .ref a ∧ ((SqL K H1 a us ∧ R (Itl K a) H1) ∨ (SqT K H1 a us ∧ R (Itt K a) H1))
theorem pi_seq {tg l : Expr} {tl : TE} (hl : PE X l tl) : PI X tg l (iSeq X.K tl) := by
  refine ⟨fun pins s σ H R I h => ?_⟩
  refine thn (hl.run pins s σ H _ I h) fun v s1 ⟨x, H1, I1, r1, q1⟩ => ?_
  obtain ⟨a, us, e, q⟩ := q1
  subst e
  cases r1
  rcases q with ⟨hq, q⟩ | ⟨hq, q⟩
  · have := (pi_list (X := X) (tg := tg) (l := l) (tl := tl) hl)
    obtain ⟨its, rv, p, hz⟩ := I1.list hq
    refine PySem.wpAny_pyIter_list p.isList ?_
    refine ⟨s1.heap.objs.size, [s1.heap.objs.size], _, _, H1, rfl, I1.kept (t' := s1.toks) fun b o e => Heap.get?_push_of_some _ e, turn_list a _, ⟨_, Heap.get?_push_size _ rfl, rfl, rfl⟩, fun b hb => ?_, q⟩
    have e : b = s1.heap.objs.size := by simpa using hb
    subst e
    exact I1.fpOk (Nat.le_refl _) (I1.hok.fresh (Nat.le_refl _))
  · obtain ⟨its, rv, p, hz⟩ := I1.tuple hq
    refine PySem.wpAny_pyIter_tuple (show s1.heap.IsTuple a its.toArray from p) ?_
    refine ⟨s1.heap.objs.size, [s1.heap.objs.size], _, _, H1, rfl, I1.kept (t' := s1.toks) fun b o e => Heap.get?_push_of_some _ e, turn_tuple a _, ⟨_, Heap.get?_push_size _ rfl, rfl, rfl⟩, fun b hb => ?_, q⟩
    have e : b = s1.heap.objs.size := by simpa using hb
    subst e
    exact I1.fpOk (Nat.le_refl _) (I1.hok.fresh (Nat.le_refl _))

def PostI (K : PySem.W.Frag) (H : Hp) (F : Addr → Prop) (W : List Addr) (σ : L2.St) (ds : List D) (L' : Lcs) (J : It) (H' : Hp) : Prop :=
  ∃ (F' : Addr → Prop) (ws' : List (List Addr)), WalkD K H' F' J ds ∧ LReps K H' F' L' σ ws' ∧ Wf H' F' ws'.flatten ∧ Ext H F W H' F' ws'.flatten
def GoalI (X : Cx) (EX : XK) (tg iter : Expr) (σ : L2.St) (H : Hp) (F : Addr → Prop) (W : List Addr) (r : Res (List D × Lcs)) : Prop :=
  ∀ R : It → Hp → Prop, After X.K X.mg EX H F W r (fun ds L' => ∀ J H', PostI X.K H F W σ ds L' J H' → R J H') → tiW X tg iter σ H R

/-- temporaries frozen -/
theorem freezeT {ds : List D} {vs : List V} {L : Lcs} {W1 : List Addr} {ws : List (List Addr)} (r : Reps K H F ds vs W1) (l : LReps K H F L σ ws) (w : Wf H F (W1 ++ ws.flatten)) :
    Reps K H (fun a => F a ∨ a ∈ W1) (D.fzs ds) vs [] ∧ LReps K H (fun a => F a ∨ a ∈ W1) L σ ws ∧ Wf H (fun a => F a ∨ a ∈ W1) ws.flatten ∧ Ext H F (W1 ++ ws.flatten) H (fun a => F a ∨ a ∈ W1) ws.flatten := by
  refine ⟨r.fz (fun a f => .inl f) fun a m => .inr m, l.up fun a f => .inl f, ⟨w.right.nd, fun a m z => ?_, fun a f => ?_⟩, ⟨fun a o h _ => h, fun a m => .inl (List.mem_append_right _ m), fun a f => .inl f, fun a f => ?_, fun a h => h⟩⟩
  · rcases z with z | z
    · exact w.dj a (List.mem_append_right _ m) z
    · exact (List.nodup_append.mp w.nd).2.2 a z a m rfl
  · rcases f with f | f
    · exact w.tr a f
    · exact (r.muts a f).some
  · rcases f with f | f
    · exact .inl f
    · exact .inr (.inl (List.mem_append_left _ f))
theorem els_fz {d : D} : (d.fz).els = d.els.map (fun ds => match d with | .frz _ => ds | _ => D.fzs ds) := by
  cases d <;> rfl

theorem walk_lst {a : Addr} {us : List V} {ds : List D} (r : Reps K H F ds us []) (hz : us.length ≤ sizeLine) (s : ∀ H1, Kp H F H1 → SqL K H1 a us) : WalkD K H F (Itl K a) ds := by
  refine ⟨by rw [r.length]; exact hz, ?_⟩
  have e := r.length
  rw [e]
  refine walk_list.mono (fun H1 k => s H1 k) fun i H1 x H2 hi k y => ?_
  obtain ⟨rfl, hx⟩ := y
  obtain ⟨d, hd⟩ : ∃ d, ds[i]? = some d := ⟨ds[i]'(by omega), by simp [show i < ds.length by omega]⟩
  obtain ⟨v, W1, e1, r1, sb⟩ := r.get hd
  rw [hx] at e1
  cases e1
  exact ⟨KA.refl _, d, hd, fun F' m => r1.kp (List.sublist_nil.mp sb) k m⟩
theorem walk_tp {a : Addr} {us : List V} {ds : List D} (r : Reps K H F ds us []) (hz : us.length ≤ sizeLine) (s : ∀ H1, Kp H F H1 → SqT K H1 a us) : WalkD K H F (Itt K a) ds := by
  refine ⟨by rw [r.length]; exact hz, ?_⟩
  have e := r.length
  rw [e]
  refine walk_tup.mono (fun H1 k => s H1 k) fun i H1 x H2 hi k y => ?_
  obtain ⟨rfl, hx⟩ := y
  obtain ⟨d, hd⟩ : ∃ d, ds[i]? = some d := ⟨ds[i]'(by omega), by simp [show i < ds.length by omega]⟩
  obtain ⟨v, W1, e1, r1, sb⟩ := r.get hd
  rw [hx] at e1
  cases e1
  exact ⟨KA.refl _, d, hd, fun F' m => r1.kp (List.sublist_nil.mp sb) k m⟩
theorem rngD_get : ∀ {n : Nat} {lo : Int} {i : Nat}, i < n → (rngD lo n)[i]? = some (.int (lo + i))
  | n + 1, lo, 0, _ => by simp [rngD]
  | n + 1, lo, i + 1, h => by
    simp only [rngD, List.getElem?_cons_succ]
    rw [rngD_get (by omega)]
    congr 2
    omega
theorem rngD_len : ∀ {n : Nat} {lo : Int}, (rngD lo n).length = n
  | 0, _ => rfl
  | n + 1, lo => by simp [rngD, rngD_len]
theorem walk_rng {lo : Int} {n : Nat} (hn : n ≤ 3000000) : WalkD K H F (Itr lo n) (rngD lo n) := by
  refine ⟨by rw [rngD_len, sizeLine_eq]; omega, ?_⟩
  rw [rngD_len]
  refine walk_range.mono (fun _ _ => True.intro) fun i H1 x H2 hi k y => ?_
  obtain ⟨rfl, rfl⟩ := y
  exact ⟨KA.refl _, _, rngD_get hi, fun F' m => .int .nil⟩
theorem zip2_len : ∀ (xs ys : List D), (zip2D xs ys).length = min xs.length ys.length
  | [], ys => by simp [zip2D]
  | _ :: _, [] => by simp [zip2D]
  | x :: xs, y :: ys => by simp only [zip2D, List.length_cons, zip2_len xs ys]; omega
theorem zip2_get : ∀ {xs ys : List D} {i : Nat} {x y : D}, xs[i]? = some x → ys[i]? = some y → (zip2D xs ys)[i]? = some (.tup [x, y])
  | [], _, _, _, _, h, _ => by simp at h
  | _ :: _, [], _, _, _, _, h => by simp at h
  | x :: xs, y :: ys, 0, _, _, h, h2 => by simp at h h2; subst h h2; simp [zip2D]
  | x :: xs, y :: ys, i + 1, _, _, h, h2 => by simp only [zip2D, List.getElem?_cons_succ]; exact zip2_get (by simpa using h) (by simpa using h2)
theorem enum_len : ∀ (k : Int) (xs : List D), (enumD k xs).length = xs.length
  | _, [] => rfl
  | k, x :: xs => by simp [enumD, enum_len]
theorem enum_get : ∀ {k : Int} {xs : List D} {i : Nat} {x : D}, xs[i]? = some x → (enumD k xs)[i]? = some (.tup [.int (k + i), x])
  | _, [], _, _, h => by simp at h
  | k, x :: xs, 0, _, h => by simp at h; subst h; simp [enumD]
  | k, x :: xs, i + 1, _, h => by
    simp only [enumD, List.getElem?_cons_succ]
    rw [enum_get (by simpa using h)]
    have e : k + 1 + (i : Int) = k + ((i + 1 : Nat) : Int) := by omega
    rw [e]
theorem pair_rep {H2 : Hp} {F' : Addr → Prop} {d e : D} {x y : V} {T : Addr} (r1 : Reps K H1 F' [d] [x] []) (r2 : Reps K H1 F' [e] [y] []) (hT : H1 T = none) (e2 : H2 = upd H1 T (.tup [x, y])) : KA H1 H2 ∧ Reps K H2 F' [.tup [d, e]] [.ref T] [] := by
  subst e2
  have k : KA H1 (upd H1 T (.tup [x, y])) := KA.new hT
  refine ⟨k, ?_⟩
  have := Reps.tup (F := F') (W2 := []) (SqT.of (K := K) (upd_same (H := H1) (a := T) (o := .tup [x, y]))) (Reps.cons_iff.mpr ⟨[], [], rfl, k.reps r1, k.reps r2⟩) .nil
  simpa using this
theorem walk_zipL {a b : Addr} {us vs : List V} {xs ys : List D} (r : Reps K H F xs us []) (r2 : Reps K H F ys vs []) (hz : us.length ≤ sizeLine) (s : ∀ H1, Kp H F H1 → SqL K H1 a us) (s2 : ∀ H1, Kp H F H1 → SqL K H1 b vs) : WalkD K H F (Itz K a b) (zip2D xs ys) := by
  have e1 := r.length
  have e2 := r2.length
  refine ⟨by rw [zip2_len]; omega, ?_⟩
  rw [zip2_len, e1, e2]
  refine (walk_zip rfl).mono (fun H1 k => ⟨s H1 k, s2 H1 k⟩) fun i H1 x H2 hi k y => ?_
  obtain ⟨T, p, q, rfl, hT, eH, hp, hq⟩ := y
  obtain ⟨d, hd⟩ : ∃ d, xs[i]? = some d := ⟨xs[i]'(by omega), by simp [show i < xs.length by omega]⟩
  obtain ⟨d2, hd2⟩ : ∃ d, ys[i]? = some d := ⟨ys[i]'(by omega), by simp [show i < ys.length by omega]⟩
  obtain ⟨v, W1, ev, rv, sb⟩ := r.get hd
  obtain ⟨v2, W2, ev2, rv2, sb2⟩ := r2.get hd2
  have hp' : us[i]? = some p := hp
  have hq' : vs[i]? = some q := hq
  rw [hp'] at ev; cases ev
  rw [hq'] at ev2; cases ev2
  have k2 : KA H1 H2 := by rw [eH]; exact KA.new hT
  exact ⟨k2, _, zip2_get hd hd2, fun F' m => (pair_rep (rv.kp (List.sublist_nil.mp sb) k m) (rv2.kp (List.sublist_nil.mp sb2) k m) hT eH).2⟩
theorem walk_zipTT {n : Nat} {xs ys : List V} {a b : Addr} (hn : n = min xs.length ys.length) : L2.Walk (RZ.ItzT K a b) n (fun H => SqT K H a xs ∧ SqT K H b ys) (YPair (fun i => xs[i]?) (fun i => ys[i]?)) := by
  subst hn
  refine ⟨fun i _ hi q => ?_, fun _ q => ⟨xs, ys, q.1, q.2, by omega⟩, fun i H v H' _ q y => ?_⟩
  · have h1 : i < xs.length := by omega
    have h2 : i < ys.length := by omega
    exact ⟨xs, ys, xs[i], ys[i], q.1, q.2, by simp [h1], by simp [h2]⟩
  · obtain ⟨T, x, z, h1, h2, h3, h4, h5⟩ := y
    exact ⟨T, x, z, h1, h2, h3, h4 xs q.1, h5 ys q.2⟩
theorem walk_zipT {a b : Addr} {us vs : List V} {xs ys : List D} (r : Reps K H F xs us []) (r2 : Reps K H F ys vs []) (hz : us.length ≤ sizeLine) (s : ∀ H1, Kp H F H1 → SqT K H1 a us) (s2 : ∀ H1, Kp H F H1 → SqT K H1 b vs) : WalkD K H F (RZ.ItzT K a b) (zip2D xs ys) := by
  have e1 := r.length
  have e2 := r2.length
  refine ⟨by rw [zip2_len]; omega, ?_⟩
  rw [zip2_len, e1, e2]
  refine (walk_zipTT rfl).mono (fun H1 k => ⟨s H1 k, s2 H1 k⟩) fun i H1 x H2 hi k y => ?_
  obtain ⟨T, p, q, rfl, hT, eH, hp, hq⟩ := y
  obtain ⟨d, hd⟩ : ∃ d, xs[i]? = some d := ⟨xs[i]'(by omega), by simp [show i < xs.length by omega]⟩
  obtain ⟨d2, hd2⟩ : ∃ d, ys[i]? = some d := ⟨ys[i]'(by omega), by simp [show i < ys.length by omega]⟩
  obtain ⟨v, W1, ev, rv, sb⟩ := r.get hd
  obtain ⟨v2, W2, ev2, rv2, sb2⟩ := r2.get hd2
  have hp' : us[i]? = some p := hp
  have hq' : vs[i]? = some q := hq
  rw [hp'] at ev; cases ev
  rw [hq'] at ev2; cases ev2
  have k2 : KA H1 H2 := by rw [eH]; exact KA.new hT
  exact ⟨k2, _, zip2_get hd hd2, fun F' m => (pair_rep (rv.kp (List.sublist_nil.mp sb) k m) (rv2.kp (List.sublist_nil.mp sb2) k m) hT eH).2⟩
theorem walk_enumL {a : Addr} {us : List V} {xs : List D} (r : Reps K H F xs us []) (hz : us.length ≤ sizeLine) (s : ∀ H1, Kp H F H1 → SqL K H1 a us) : WalkD K H F (Ite K a) (enumD 0 xs) := by
  have e1 := r.length
  refine ⟨by rw [enum_len]; omega, ?_⟩
  rw [enum_len, e1]
  refine walk_enum.mono (fun H1 k => s H1 k) fun i H1 x H2 hi k y => ?_
  obtain ⟨T, p, q, rfl, hT, eH, hp, hq⟩ := y
  obtain ⟨d, hd⟩ : ∃ d, xs[i]? = some d := ⟨xs[i]'(by omega), by simp [show i < xs.length by omega]⟩
  obtain ⟨v, W1, ev, rv, sb⟩ := r.get hd
  have hp' : some (V.int (i : Nat)) = some p := hp
  have hq' : us[i]? = some q := hq
  cases hp'
  rw [hq'] at ev; cases ev
  have k2 : KA H1 H2 := by rw [eH]; exact KA.new hT
  refine ⟨k2, _, enum_get hd, fun F' m => ?_⟩
  have := (pair_rep (F' := F') (d := .int (0 + (i : Int))) (x := .int (i : Nat)) (by rw [Int.zero_add]; exact .int .nil) (rv.kp (List.sublist_nil.mp sb) k m) hT eH).2
  exact this
end
end Q

namespace Q
open PySem L2 PySem.Spec

/-! ## calls of the program's defs -/
inductive AReps (K : PySem.W.Frag) (H : Hp) (F : Addr → Prop) (σ : L2.St) : List Bool → List Arg → List V → List Addr → Prop
  | nil {ms} : AReps K H F σ ms [] [] []
  | val {ms d v W1 as vs W2} : ms.headD false = false → Reps K H F [d] [v] W1 → AReps K H F σ ms.tail as vs W2 → AReps K H F σ ms (.val d :: as) (v :: vs) (W1 ++ W2)
  | bor {ms i v as vs W} : ms.headD false = false → σ[i]? = some (some v) → AReps K H F σ ms.tail as vs W → AReps K H F σ ms (.bor i :: as) (v :: vs) W
  | io {ms i v as vs W} : ms.headD false = true → σ[i]? = some (some v) → AReps K H F σ ms.tail as vs W → AReps K H F σ ms (.io i :: as) (v :: vs) W

mutual
theorem noOwn_fz : ∀ d : D, d.fz.noOwn = true
  | .non | .bl _ | .int _ | .str _ => by simp [D.fz, D.noOwn]
  | .tup ds => by simp [D.fz, D.noOwn, noOwns_fzs ds]
  | .lst b ds => by simp [D.fz, D.noOwn, noOwns_fzs ds]
  | .dic b ks ds => by simp [D.fz, D.noOwn, noOwns_fzs ds]
  | .frz ds => by simp [D.fz, D.noOwn]
theorem noOwns_fzs : ∀ ds : List D, D.noOwns (D.fzs ds) = true
  | [] => by simp [D.fzs, D.noOwns]
  | d :: ds => by simp [D.fzs, D.noOwns, noOwn_fz d, noOwns_fzs ds]
end

section
variable {K : PySem.W.Frag} {σ : L2.St} {H H' : Hp} {F F' : Addr → Prop} {Wt : List Addr} {ms : List Bool} {as : List Arg} {vs : List V}

theorem AReps.muts (r : AReps K H F σ ms as vs Wt) : ∀ a ∈ Wt, IsMut H a := by
  induction r with
  | nil => intro a m; cases m
  | val _ r _ ih => intro a m; exact (List.mem_append.mp m).elim (r.muts a) (ih a)
  | bor _ _ _ ih => exact ih
  | io _ _ _ ih => exact ih
theorem AReps.frame {B : List Addr} (r : AReps K H F σ ms as vs Wt) (k : ∀ a o, H a = some o → a ∉ B → H' a = some o) (hm : ∀ a ∈ B, IsMut H a) (hd : ∀ a ∈ Wt, a ∉ B) (hF : ∀ a, F a → a ∉ B) (mono : ∀ a, F a → F' a) : AReps K H' F' σ ms as vs Wt := by
  induction r with
  | nil => exact .nil
  | val h r _ ih => exact .val h (r.frame k hm (fun a m => hd a (List.mem_append_left _ m)) hF mono) (ih fun a m => hd a (List.mem_append_right _ m))
  | bor h e _ ih => exact .bor h e (ih hd)
  | io h e _ ih => exact .io h e (ih hd)
/-- temporaries stay aside -/
theorem aasideA {W W1 : List Addr} (r : AReps K H F σ ms as vs Wt) (m : ∀ a ∈ W, IsMut H a) (w : Wf H F (Wt ++ W)) (x : Ext H F W H' F' W1) (w1 : Wf H' F' W1) :
    AReps K H' F' σ ms as vs Wt ∧ Wf H' F' (Wt ++ W1) ∧ Ext H F (Wt ++ W) H' F' (Wt ++ W1) := by
  have nd := List.nodup_append.mp w.nd
  have dis : ∀ a ∈ Wt, a ∉ W := fun a h z => nd.2.2 a h a z rfl
  have m0 := r.muts
  refine ⟨r.frame x.keep m dis (fun a h z => w.dj a (List.mem_append_right _ z) h) x.mono, ⟨?_, fun a h => ?_, w1.tr⟩, ⟨fun a o h n => x.keep a o h fun z => n (List.mem_append_right _ z), fun a h => ?_, x.mono, fun a h => ?_, x.live⟩⟩
  · refine List.nodup_append.mpr ⟨nd.1, w1.nd, fun a h b h' e => ?_⟩
    subst e
    rcases x.w a h' with z | z
    · exact dis a h z
    · exact (m0 a h).some z
  · rcases List.mem_append.mp h with h | h
    · intro z
      rcases x.f a z with z | z | z
      · exact w.dj a (List.mem_append_left _ h) z
      · exact dis a h z
      · exact (m0 a h).some z
    · exact w1.dj a h
  · rcases List.mem_append.mp h with h | h
    · exact .inl (List.mem_append_left _ h)
    · exact (x.w a h).elim (fun z => .inl (List.mem_append_right _ z)) .inr
  · rcases x.f a h with z | z | z
    · exact .inl z
    · exact .inr (.inl (List.mem_append_right _ z))
    · exact .inr (.inr z)

/-- the arguments' values at the call -/
theorem argVals_ok : ∀ {as : List Arg} {ms : List Bool} {vs : List V} {Wt : List Addr} {L L1 : Lcs} {ws : List (List Addr)} {ds : List D}, AReps K H F σ ms as vs Wt → LReps K H F L σ ws → argVals as L = some (ds, L1) →
    ∃ (ws1 : List (List Addr)) (Wio : List Addr), LReps K H F L1 σ ws1 ∧ ws.flatten.Perm (Wio ++ ws1.flatten) ∧ (∀ i d, L1[i]? = some (some d) → ws1.getD i [] = ws.getD i []) ∧
      (∀ Fc : Addr → Prop, (∀ a, F a → Fc a) → (∀ a ∈ Wt, Fc a) → (∀ i, Arg.bor i ∈ as → ∀ a ∈ ws.getD i [], Fc a) → Reps K H Fc ds vs Wio) ∧ ioNone ms ds = true
  | [], ms, vs, Wt, L, L1, ws, ds, r, l, h => by
    simp only [argVals, Option.some.injEq, Prod.mk.injEq] at h
    obtain ⟨rfl, rfl⟩ := h
    cases r
    refine ⟨ws, [], l, List.Perm.refl _, fun _ _ _ => rfl, fun _ _ _ _ => .nil, ?_⟩
    cases ms with
    | nil => rfl
    | cons m ms => cases m <;> rfl
  | .val d :: as, ms, _, _, L, L1, ws, ds, .val (vs := vs) (W1 := W1) (W2 := W2) hm rd ra, l, h => by
    simp only [argVals] at h
    split at h <;> simp only [Option.some.injEq, Prod.mk.injEq, reduceCtorEq] at h
    rename_i ds' L' e
    obtain ⟨rfl, rfl⟩ := h
    obtain ⟨ws1, Wio, l1, p, g, rr, io⟩ := argVals_ok ra l e
    refine ⟨ws1, Wio, l1, p, g, fun Fc h1 h2 h3 => ?_, ?_⟩
    · exact Reps.cons_iff.mpr ⟨[], Wio, rfl, fz_one rd h1 (fun a m => h2 a (List.mem_append_left _ m)), rr Fc h1 (fun a m => h2 a (List.mem_append_right _ m)) fun i m => h3 i (List.mem_cons_of_mem _ m)⟩
    · cases ms with
      | nil =>
        have : D.noOwns ds' = true := by cases ds' <;> exact io
        simp [ioNone, D.noOwns, noOwn_fz, this]
      | cons m ms =>
        simp only [List.headD_cons] at hm
        subst hm
        simp only [ioNone, noOwn_fz, Bool.true_and]
        exact io
  | .bor i :: as, ms, _, _, L, L1, ws, ds, .bor (vs := vs) hm es ra, l, h => by
    simp only [argVals] at h
    split at h <;> simp only [Option.some.injEq, Prod.mk.injEq, reduceCtorEq] at h
    rename_i d ds' L' ed e
    obtain ⟨rfl, rfl⟩ := h
    obtain ⟨ws1, Wio, l1, p, g, rr, io⟩ := argVals_ok ra l e
    obtain ⟨v, e1, rd, hi⟩ := l.get ed
    rw [es] at e1
    cases e1
    refine ⟨ws1, Wio, l1, p, g, fun Fc h1 h2 h3 => ?_, ?_⟩
    · exact Reps.cons_iff.mpr ⟨[], Wio, rfl, fz_one rd h1 (fun a m => h3 i List.mem_cons_self a m), rr Fc h1 h2 fun i m => h3 i (List.mem_cons_of_mem _ m)⟩
    · cases ms with
      | nil =>
        have : D.noOwns ds' = true := by cases ds' <;> exact io
        simp [ioNone, D.noOwns, noOwn_fz, this]
      | cons m ms =>
        simp only [List.headD_cons] at hm
        subst hm
        simp only [ioNone, noOwn_fz, Bool.true_and]
        exact io
  | .io i :: as, ms, _, _, L, L1, ws, ds, .io (vs := vs) hm es ra, l, h => by
    simp only [argVals] at h
    split at h <;> try (simp only [reduceCtorEq] at h)
    rename_i d ed
    split at h <;> simp only [Option.some.injEq, Prod.mk.injEq, reduceCtorEq] at h
    rename_i ds' L' e
    obtain ⟨rfl, rfl⟩ := h
    obtain ⟨v, e1, rd, hi⟩ := l.get ed
    rw [es] at e1
    cases e1
    obtain ⟨ws1, Wio, l1, p, g, rr, io⟩ := argVals_ok ra (l.forget i) e
    have sub : ∀ j, ∀ a ∈ (ws.set i []).getD j [], a ∈ ws.getD j [] := fun j a m => by
      by_cases hj : i = j
      · subst hj; simp [List.getD_eq_getElem?_getD, List.getElem?_set_self hi] at m
      · simpa [List.getD_eq_getElem?_getD, List.getElem?_set_ne hj] using m
    refine ⟨ws1, ws.getD i [] ++ Wio, l1, ?_, fun j d' ej => ?_, fun Fc h1 h2 h3 => ?_, ?_⟩
    · rw [List.append_assoc]
      exact (flat_take hi).trans (List.Perm.append_left _ p)
    · rw [g j d' ej]
      by_cases hj : i = j
      · subst hj
        exfalso
        have key : ∀ {as : List Arg} {L L1 : Lcs} {ds : List D} {j : Nat}, argVals as L = some (ds, L1) → (∀ d, L[j]? ≠ some (some d)) → ∀ d, L1[j]? ≠ some (some d) := by
          intro as
          induction as with
          | nil => intro L L1 ds j h hn; simp only [argVals, Option.some.injEq, Prod.mk.injEq] at h; rw [← h.2]; exact hn
          | cons x as ih =>
            intro L L1 ds j h hn
            cases x with
            | val d =>
              simp only [argVals] at h
              split at h <;> simp only [Option.some.injEq, Prod.mk.injEq, reduceCtorEq] at h
              rename_i e; rw [← h.2]; exact ih e hn
            | bor k =>
              simp only [argVals] at h
              split at h <;> simp only [Option.some.injEq, Prod.mk.injEq, reduceCtorEq] at h
              rename_i e; rw [← h.2]; exact ih e hn
            | io k =>
              simp only [argVals] at h
              split at h <;> try (simp only [reduceCtorEq] at h)
              split at h <;> simp only [Option.some.injEq, Prod.mk.injEq, reduceCtorEq] at h
              rename_i e
              rw [← h.2]
              refine ih e fun d => ?_
              by_cases hk : k = j
              · subst hk
                by_cases hl : k < L.length
                · rw [List.getElem?_set_self hl]; simp
                · rw [List.getElem?_eq_none (by simpa using hl)]; simp
              · rw [List.getElem?_set_ne hk]; exact hn d
        refine key e (fun d => ?_) d' ej
        rw [List.getElem?_set_self (List.getElem?_eq_some_iff.mp ed).1]; simp
      · simp [List.getD_eq_getElem?_getD, List.getElem?_set_ne hj]
    · exact Reps.cons_iff.mpr ⟨_, Wio, rfl, rd.up h1, rr Fc h1 h2 fun j m a ma => h3 j (List.mem_cons_of_mem _ m) a (sub j a ma)⟩
    · cases ms with
      | nil => simp at hm
      | cons m ms =>
        simp only [List.headD_cons] at hm
        subst hm
        exact io

/-- a slot is filled anew -/
theorem put_one {L : Lcs} {ws : List (List Addr)} {i : Nat} {d : D} {v : V} {W1 W2 : List Addr} (l : LReps K H F L σ ws) (es : σ[i]? = some (some v)) (r : Reps K H F [d] [v] W1) (w : Wf H F (W1 ++ (W2 ++ ws.flatten))) :
    LReps K H F (L.set i (some d)) σ (ws.set i W1) ∧ Wf H F (W2 ++ (ws.set i W1).flatten) ∧ (∀ a ∈ (ws.set i W1).flatten, a ∈ W1 ∨ a ∈ ws.flatten) := by
  have h := store_one (i := i) l r w
  refine ⟨l.put es r, h.2⟩
theorem putBack_ok : ∀ {as : List Arg} {ms : List Bool} {vs : List V} {Wt W0 W2 : List Addr} {L L2 : Lcs} {ws : List (List Addr)} {os : List (Option D)} {H0 : Hp} {F0 : Addr → Prop}, AReps K H0 F0 σ ms as vs Wt → LReps K H F L σ ws → OReps K H F os (ioPick ms vs) W2 →
    putBack as os L = some L2 → Wf H F (W0 ++ (W2 ++ ws.flatten)) → ∃ ws2, LReps K H F L2 σ ws2 ∧ Wf H F (W0 ++ ws2.flatten) ∧ (∀ a ∈ ws2.flatten, a ∈ W2 ∨ a ∈ ws.flatten) ∧ ∀ i, Arg.io i ∉ as → ws2.getD i [] = ws.getD i [] ∧ L2[i]? = L[i]?
  | [], ms, vs, Wt, W0, W2, L, L2, ws, os, _, _, r, l, o, h, w => by
    cases r
    cases os with
    | nil =>
      simp only [putBack, Option.some.injEq] at h
      subst h
      have : ioPick ms ([] : List V) = [] := by cases ms with
        | nil => rfl
        | cons m ms => cases m <;> rfl
      rw [this] at o
      cases o
      exact ⟨ws, l, by simpa using w, fun a m => .inr m, fun _ _ => ⟨rfl, rfl⟩⟩
    | cons x os => simp [putBack] at h
  | .val d :: as, ms, _, _, W0, W2, L, L2, ws, os, _, _, .val (vs := vs) (v := v) hm rd ra, l, o, h, w => by
    have e : ioPick ms (v :: vs) = ioPick ms.tail vs := by
      cases ms with
      | nil => cases vs <;> rfl
      | cons m ms => simp only [List.headD_cons] at hm; subst hm; rfl
    rw [e] at o
    obtain ⟨ws2, l2, w2, m2, g2⟩ := putBack_ok ra l o (by cases os <;> exact h) w
    exact ⟨ws2, l2, w2, m2, fun i m => g2 i fun z => m (List.mem_cons_of_mem _ z)⟩
  | .bor i :: as, ms, _, _, W0, W2, L, L2, ws, os, _, _, .bor (vs := vs) (v := v) hm es ra, l, o, h, w => by
    have e : ioPick ms (v :: vs) = ioPick ms.tail vs := by
      cases ms with
      | nil => cases vs <;> rfl
      | cons m ms => simp only [List.headD_cons] at hm; subst hm; rfl
    rw [e] at o
    obtain ⟨ws2, l2, w2, m2, g2⟩ := putBack_ok ra l o (by cases os <;> exact h) w
    exact ⟨ws2, l2, w2, m2, fun i m => g2 i fun z => m (List.mem_cons_of_mem _ z)⟩
  | .io i :: as, ms, _, _, W0, W2, L, L2, ws, os, _, _, .io (vs := vs) (v := v) hm es ra, l, o, h, w => by
    cases ms with
    | nil => simp at hm
    | cons m ms =>
      simp only [List.headD_cons] at hm
      subst hm
      have e : ioPick (true :: ms) (v :: vs) = v :: ioPick ms vs := rfl
      rw [e] at o
      cases os with
      | nil => simp [putBack] at h
      | cons x os =>
        simp only [putBack] at h
        cases o with
        | skip o =>
          have sb : (ws.set i []).flatten.Sublist ws.flatten := flat_none i
          obtain ⟨ws2, l2, w2, m2, g2⟩ := putBack_ok ra (l.forget i) o h (w.sub (List.Sublist.append (List.Sublist.refl _) (List.Sublist.append (List.Sublist.refl _) sb)))
          refine ⟨ws2, l2, w2, fun a m => (m2 a m).imp id fun z => sb.subset z, fun j m => ?_⟩
          have hj : i ≠ j := fun z => m (by rw [z]; exact List.mem_cons_self)
          obtain ⟨a1, a2⟩ := g2 j fun z => m (List.mem_cons_of_mem _ z)
          exact ⟨by rw [a1]; simp [List.getD_eq_getElem?_getD, List.getElem?_set_ne hj], by rw [a2, List.getElem?_set_ne hj]⟩
        | @cons d _ _ _ Wa Wb rd o =>
          have w1 : Wf H F (Wa ++ ((W0 ++ Wb) ++ ws.flatten)) := w.perm (by
            simp only [← List.append_assoc]
            exact List.Perm.append_right _ (List.Perm.append_right _ List.perm_append_comm))
          obtain ⟨l1, w2, m1⟩ := put_one (i := i) l es rd w1
          obtain ⟨ws2, l2, w3, m2, g2⟩ := putBack_ok (W0 := W0) ra l1 o h (by simpa [List.append_assoc] using w2)
          refine ⟨ws2, l2, w3, fun a m => ?_, fun j m => ?_⟩
          · rcases m2 a m with z | z
            · exact .inl (List.mem_append_right _ z)
            · exact (m1 a z).imp (fun z => List.mem_append_left _ z) id
          · have hj : i ≠ j := fun z => m (by rw [z]; exact List.mem_cons_self)
            obtain ⟨a1, a2⟩ := g2 j fun z => m (List.mem_cons_of_mem _ z)
            exact ⟨by rw [a1]; simp [List.getD_eq_getElem?_getD, List.getElem?_set_ne hj], by rw [a2, List.getElem?_set_ne hj]⟩

/-- what was lent is frozen -/
theorem fzLent_ok : ∀ {as : List Arg} {L : Lcs} {ws : List (List Addr)}, LReps K H F L σ ws → (∀ i, Arg.bor i ∈ as → ∀ a ∈ ws.getD i [], F a) → ∃ ws', LReps K H F (fzLent as L) σ ws' ∧ ws'.flatten.Sublist ws.flatten ∧ ∀ i, Arg.bor i ∈ as → ∀ a ∈ ws.getD i [], a ∉ ws'.flatten ∨ ¬ ws.flatten.Nodup
  | [], L, ws, l, _ => ⟨ws, l, List.Sublist.refl _, fun i m => nomatch m⟩
  | .val d :: as, L, ws, l, h => by
    obtain ⟨ws', l', s, g⟩ := fzLent_ok (as := as) l fun i m => h i (List.mem_cons_of_mem _ m)
    refine ⟨ws', l', s, fun i m => g i ?_⟩
    rcases List.mem_cons.mp m with z | z
    · cases z
    · exact z
  | .io j :: as, L, ws, l, h => by
    obtain ⟨ws', l', s, g⟩ := fzLent_ok (as := as) l fun i m => h i (List.mem_cons_of_mem _ m)
    refine ⟨ws', l', s, fun i m => g i ?_⟩
    rcases List.mem_cons.mp m with z | z
    · cases z
    · exact z
  | .bor j :: as, L, ws, l, h => by
    have hl := l.length
    have l1 : LReps K H F (fzAt L j) σ (ws.set j []) := by
      unfold fzAt
      cases e : L[j]? with
      | none =>
        have : L.length ≤ j := List.getElem?_eq_none_iff.mp e
        rw [List.set_eq_of_length_le (by omega)]
        exact l
      | some o =>
        cases o with
        | none =>
          have l2 := l.forget j
          have e2 : L.set j none = L := by
            apply List.ext_getElem?
            intro k
            by_cases hj : j = k
            · subst hj; rw [e, List.getElem?_set_self (List.getElem?_eq_some_iff.mp e).1]
            · rw [List.getElem?_set_ne hj]
          rw [e2] at l2
          exact l2
        | some d =>
          obtain ⟨v, e1, r, hi⟩ := l.get e
          exact l.put e1 (fz_one r (fun a f => f) fun a m => h j List.mem_cons_self a m)
    have sb : (ws.set j []).flatten.Sublist ws.flatten := flat_none j
    have sub : ∀ k, ∀ a ∈ (ws.set j []).getD k [], a ∈ ws.getD k [] := fun k a m => by
      by_cases hj : j = k
      · subst hj
        by_cases hi : j < ws.length
        · simp [List.getD_eq_getElem?_getD, List.getElem?_set_self hi] at m
        · rw [List.set_eq_of_length_le (by omega)] at m; exact m
      · simpa [List.getD_eq_getElem?_getD, List.getElem?_set_ne hj] using m
    obtain ⟨ws', l', s, g⟩ := fzLent_ok (as := as) l1 fun i m a ma => h i (List.mem_cons_of_mem _ m) a (sub i a ma)
    refine ⟨ws', l', s.trans sb, fun i m a ma => ?_⟩
    by_cases hn : ws.flatten.Nodup
    · refine .inl fun z => ?_
      by_cases hj : j = i
      · subst hj
        have z2 := s.subset z
        have hi : j < ws.length := by
          by_cases hi : j < ws.length
          · exact hi
          · rw [List.getD_eq_getElem?_getD, List.getElem?_eq_none (by omega)] at ma; simp at ma
        have nd2 := (flat_take hi).nodup_iff.mp hn
        exact (List.nodup_append.mp nd2).2.2 a ma a z2 rfl
      · have m' : Arg.bor i ∈ as := by
          rcases List.mem_cons.mp m with z | z
          · cases z; exact absurd rfl hj
          · exact z
        have ma' : a ∈ (ws.set j []).getD i [] := by simpa [List.getD_eq_getElem?_getD, List.getElem?_set_ne hj] using ma
        rcases g i m' a ma' with y | y
        · exact y z
        · exact y (hn.sublist sb)
    · exact .inr hn
end

section
variable {X : Cx} {Z : EnvQ} {Γ : Gam} {EX : XK} {σ : L2.St} {H : Hp} {F : Addr → Prop} {Wt : List Addr}
theorem io_none_of {as : List Arg} {L L1 : Lcs} {ds : List D} : True := trivial
/-- a call of a def, as V.call says -/
theorem call_sp {f : Str} {as : List Arg} {vs : List V} {L : Lcs} {ws : List (List Addr)} {Q : VK} (r : AReps X.K H F σ (Z.md f) as vs Wt) (l : LReps X.K H F L σ ws) (w : Wf H F (Wt ++ ws.flatten)) (hn : vs.length = (Z.ar f).length)
    (h : After X.K X.mg EX H F (Wt ++ ws.flatten) (callRun Z f as L) (fun d L' => ∀ v H', PostVs X.K H F (Wt ++ ws.flatten) σ [d] L' [v] H' → Q v H')) : SpF X.K X.mg Z f vs H Q EX := by
  unfold callRun at h
  cases ha : argVals as L with
  | none => rw [ha] at h; exact h.elim
  | some p =>
    obtain ⟨ds, L1⟩ := p
    rw [ha] at h
    simp only at h
    split at h <;> try (exact h.elim)
    rename_i hl
    obtain ⟨ws1, Wio, l1, p, g, rr, io⟩ := argVals_ok r l ha
    have lent : ∀ i, Arg.bor i ∈ as → ∃ d, L1[i]? = some (some d) := fun i m => by
      have := List.all_eq_true.mp hl _ m
      simp only at this
      split at this
      · exact ⟨_, by assumption⟩
      · cases this
    have nd := List.nodup_append.mp w.nd
    have ndp := List.nodup_append.mp (p.nodup_iff.mp nd.2.1)
    have mio : ∀ a ∈ Wio, a ∈ ws.flatten := fun a m => p.mem_iff.mpr (List.mem_append_left _ m)
    have mw1 : ∀ a ∈ ws1.flatten, a ∈ ws.flatten := fun a m => p.mem_iff.mpr (List.mem_append_right _ m)
    let Fc : Addr → Prop := fun a => F a ∨ a ∈ Wt ∨ ∃ i, Arg.bor i ∈ as ∧ a ∈ ws1.getD i []
    have hFc : ∀ a, F a → Fc a := fun a f => .inl f
    have fcd : ∀ a, Fc a → F a ∨ a ∈ Wt ∨ a ∈ ws1.flatten := fun a f => f.imp id (Or.imp id fun ⟨i, _, m⟩ => flat_mem m)
    have wfc : Wf H Fc Wio := ⟨ndp.1, fun a m z => by
      rcases fcd a z with z | z | z
      · exact w.dj a (List.mem_append_right _ (mio a m)) z
      · exact nd.2.2 a z a (mio a m) rfl
      · exact ndp.2.2 a m a z rfl, fun a f => by
      rcases fcd a f with z | z | z
      · exact w.tr a z
      · exact (r.muts a z).some
      · exact (l1.muts a z).some⟩
    have rds := rr Fc hFc (fun a m => .inr (.inl m)) (fun i m a ma => by
      obtain ⟨d, e⟩ := lent i m
      exact .inr (.inr ⟨i, m, by rw [g i d e]; exact ma⟩))
    refine ⟨ds, Fc, Wio, hn, rds, wfc, io, ?_⟩
    have mutW : ∀ a ∈ Wio, IsMut H a := fun a m => l.muts a (mio a m)
    cases hc : Z.call f ds with
    | bad => rw [hc] at h; exact h.elim
    | exn c x =>
      rw [hc] at h
      refine fun cls d H' F' e y => h cls d H' F' e ⟨fun a o ha n => y.keep a o ha fun z => n (List.mem_append_right _ (mio a z)), (fun a m => nomatch m), fun a f => y.mono a (hFc a f), fun a f => ?_, y.live⟩
      rcases y.f a f with z | z | z
      · rcases fcd a z with z | z | z
        · exact .inl z
        · exact .inr (.inl (List.mem_append_left _ z))
        · exact .inr (.inl (List.mem_append_right _ (mw1 a z)))
      · exact .inr (.inl (List.mem_append_right _ (mio a z)))
      · exact .inr (.inr z)
    | ok q =>
      obtain ⟨d, os⟩ := q
      rw [hc] at h
      simp only at h
      intro v H' F' W1 W2 rd ro wf' x
      have dis1 : ∀ a ∈ ws1.flatten, a ∉ Wio := fun a m z => ndp.2.2 a z a m rfl
      have ndw := List.nodup_append.mp wf'.nd
      have newW : ∀ a, (a ∈ W1 ∨ a ∈ W2) → a ∉ ws1.flatten := fun a m z => by
        rcases x.w a (List.mem_append.mpr m) with y | y
        · exact dis1 a z y
        · exact (l1.muts a z).some y
      have fin : ∀ a, a ∈ W1 ++ W2 → a ∈ Wt ++ ws.flatten ∨ H a = none := fun a m => (x.w a m).imp (fun z => List.mem_append_right _ (mio a z)) id
      split at h
      · -- nobody else's lists come back
        rename_i hs
        cases hp : putBack as os L1 with
        | none => rw [hp] at h; exact h.elim
        | some L2 =>
          rw [hp] at h
          simp only at h
          simp only [Bool.and_eq_true] at hs
          have rd' : Reps X.K H' F [d] [v] W1 := rd.noSh (by simpa [D.noShs] using hs.1)
          have ro' : OReps X.K H' F os (ioPick (Z.md f) vs) W2 := by
            have : ∀ {os : List (Option D)} {us : List V} {W : List Addr}, OReps X.K H' F' os us W → outNoSh os = true → OReps X.K H' F os us W := by
              intro os us W o
              induction o with
              | nil => intro _; exact .nil
              | skip _ ih => intro h; exact .skip (ih h)
              | cons r _ ih =>
                intro h
                simp only [outNoSh, Bool.and_eq_true] at h
                exact .cons (r.noSh (by simpa [D.noShs] using h.1)) (ih h.2)
            exact this ro hs.2
          have l1' : LReps X.K H' F L1 σ ws1 := l1.frame x.keep mutW dis1 (fun a f z => wfc.dj a z (hFc a f)) fun a f => f
          have w3 : Wf H' F (W1 ++ (W2 ++ ws1.flatten)) := ⟨by
            rw [← List.append_assoc]
            exact List.nodup_append.mpr ⟨wf'.nd, ndp.2.1, fun a m b m' e => by subst e; exact newW a (List.mem_append.mp m) m'⟩, fun a m z => by
            rcases List.mem_append.mp m with m | m
            · exact wf'.dj a (List.mem_append_left _ m) (x.mono a (hFc a z))
            · rcases List.mem_append.mp m with m | m
              · exact wf'.dj a (List.mem_append_right _ m) (x.mono a (hFc a z))
              · exact w.dj a (List.mem_append_right _ (mw1 a m)) z, fun a f => x.live a (w.tr a f)⟩
          obtain ⟨ws2, l2, w4, m4, _⟩ := putBack_ok (W0 := W1) r l1' ro' hp w3
          refine h v H' ⟨F, W1, ws2, rd', l2, w4, ⟨fun a o ha n => x.keep a o ha fun z => n (List.mem_append_right _ (mio a z)), fun a m => ?_, fun a f => f, fun a f => .inl f, x.live⟩⟩
          rcases List.mem_append.mp m with m | m
          · exact fin a (List.mem_append_left _ m)
          · rcases m4 a m with m | m
            · exact fin a (List.mem_append_right _ m)
            · exact .inl (List.mem_append_right _ (mw1 a m))
      · -- they may: what was lent is frozen
        cases hp : putBack as os (fzLent as L1) with
        | none => rw [hp] at h; exact h.elim
        | some L2 =>
          rw [hp] at h
          simp only at h
          obtain ⟨ws3, l3, sb3, g3⟩ := fzLent_ok (as := as) (F := Fc) (l1.up hFc) (fun i m a ma => .inr (.inr ⟨i, m, ma⟩))
          have dFc : ∀ a ∈ ws3.flatten, ¬ Fc a := fun a m z => by
            have m1 := sb3.subset m
            rcases z with z | z | ⟨i, mi, z⟩
            · exact w.dj a (List.mem_append_right _ (mw1 a m1)) z
            · exact nd.2.2 a z a (mw1 a m1) rfl
            · rcases g3 i mi a z with y | y
              · exact y m
              · exact y ndp.2.1
          have dis3 : ∀ a ∈ ws3.flatten, a ∉ Wio := fun a m => dis1 a (sb3.subset m)
          have l3' : LReps X.K H' F' (fzLent as L1) σ ws3 := l3.frame x.keep mutW dis3 (fun a f z => wfc.dj a z f) x.mono
          have w3 : Wf H' F' (W1 ++ (W2 ++ ws3.flatten)) := ⟨by
            rw [← List.append_assoc]
            exact List.nodup_append.mpr ⟨wf'.nd, ndp.2.1.sublist sb3, fun a m b m' e => by subst e; exact newW a (List.mem_append.mp m) (sb3.subset m')⟩, fun a m z => by
            rcases List.mem_append.mp m with m | m
            · exact wf'.dj a (List.mem_append_left _ m) z
            · rcases List.mem_append.mp m with m | m
              · exact wf'.dj a (List.mem_append_right _ m) z
              · rcases x.f a z with y | y | y
                · exact dFc a m y
                · exact dis3 a m y
                · exact (l1.muts a (sb3.subset m)).some y, wf'.tr⟩
          obtain ⟨ws2, l2, w4, m4, _⟩ := putBack_ok (W0 := W1) r l3' ro hp w3
          refine h v H' ⟨F', W1, ws2, rd, l2, w4, ⟨fun a o ha n => x.keep a o ha fun z => n (List.mem_append_right _ (mio a z)), fun a m => ?_, fun a f => x.mono a (hFc a f), fun a f => ?_, x.live⟩⟩
          · rcases List.mem_append.mp m with m | m
            · exact fin a (List.mem_append_left _ m)
            · rcases m4 a m with m | m
              · exact fin a (List.mem_append_right _ m)
              · exact .inl (List.mem_append_right _ (mw1 a (sb3.subset m)))
          · rcases x.f a f with z | z | z
            · rcases fcd a z with z | z | z
              · exact .inl z
              · exact .inr (.inl (List.mem_append_left _ z))
              · exact .inr (.inl (List.mem_append_right _ (mw1 a z)))
            · exact .inr (.inl (List.mem_append_right _ (mio a z)))
            · exact .inr (.inr z)
end
end Q

namespace Q
open PySem L2 PySem.Spec

/-! ## paths into own lists -/
inductive PathW (H : Hp) : V → List Int → V → Prop
  | nil {x} : PathW H x [] x
  | cons {b us i j v r x} : H b = some (.lst us) → ixN us.length i = some j → us[j]? = some v → PathW H v r x → PathW H (.ref b) (i :: r) x
theorem PathW.snoc {H : Hp} : ∀ {is : List Int} {i : Int} {v x : V}, PathW H v (is ++ [i]) x → ∃ b us j, PathW H v is (.ref b) ∧ H b = some (.lst us) ∧ ixN us.length i = some j ∧ us[j]? = some x
  | [], i, v, x, h => by
    cases h with
    | cons h1 h2 h3 h4 => cases h4; exact ⟨_, _, _, .nil, h1, h2, h3⟩
  | k :: is, i, v, x, h => by
    cases h with
    | cons h1 h2 h3 h4 =>
      obtain ⟨b, us, j, a1, a2, a3, a4⟩ := PathW.snoc (is := is) h4
      exact ⟨b, us, j, .cons h1 h2 h3 a1, a2, a3, a4⟩
theorem PathW.ka {H H' : Hp} (k : KA H H') {is : List Int} {v x : V} (h : PathW H v is x) : PathW H' v is x := by
  induction h with
  | nil => exact .nil
  | cons h1 h2 h3 _ ih => exact .cons (k _ _ h1) h2 h3 ih

section
variable {K : PySem.W.Frag} {H : Hp} {F : Addr → Prop}
theorem Reps.split3 : ∀ {es : List D} {vs : List V} {W : List Addr} {j : Nat} {d : D}, Reps K H F es vs W → es[j]? = some d →
    ∃ v Wa Wd Wb, vs[j]? = some v ∧ W = Wa ++ (Wd ++ Wb) ∧ Reps K H F (es.take j) (vs.take j) Wa ∧ Reps K H F [d] [v] Wd ∧ Reps K H F (es.drop (j + 1)) (vs.drop (j + 1)) Wb
  | [], _, _, j, _, _, e => by simp at e
  | e0 :: es, vs, W, j, d, r, e => by
    cases vs with
    | nil => cases r
    | cons v0 vs =>
      obtain ⟨W1, W2, rfl, r1, r2⟩ := Reps.cons_iff.mp r
      cases j with
      | zero =>
        simp at e; subst e
        exact ⟨v0, [], W1, W2, rfl, rfl, .nil, r1, by simpa using r2⟩
      | succ j =>
        obtain ⟨v, Wa, Wd, Wb, h1, rfl, h3, h4, h5⟩ := Reps.split3 (j := j) r2 (by simpa using e)
        exact ⟨v, W1 ++ Wa, Wd, Wb, by simpa using h1, by simp [List.append_assoc], by simpa using Reps.cons_iff.mpr ⟨W1, Wa, rfl, r1, h3⟩, h4, by simpa using h5⟩
theorem Reps.join3 {es : List D} {vs : List V} {Wa Wd Wb : List Addr} {j : Nat} {d : D} {v : V} (h1 : Reps K H F (es.take j) (vs.take j) Wa) (h2 : Reps K H F [d] [v] Wd) (h3 : Reps K H F (es.drop (j + 1)) (vs.drop (j + 1)) Wb) (hj : j < es.length) (hl : es.length = vs.length) :
    Reps K H F (es.set j d) (vs.set j v) (Wa ++ (Wd ++ Wb)) := by
  rw [List.set_eq_take_append_cons_drop, if_pos hj, List.set_eq_take_append_cons_drop, if_pos (by omega)]
  exact h1.append (Reps.cons_iff.mpr ⟨Wd, Wb, rfl, h2, h3⟩)
theorem frame1 {a : Addr} {us us' : List V} {ds : List D} {vs : List V} {W : List Addr} (s : H a = some (.lst us)) (r : Reps K H F ds vs W) (n : a ∉ W) (hf : ¬ F a) : Reps K (upd H a (.lst us')) F ds vs W := by
  refine r.frame (B := [a]) (fun c o h n => by rw [upd_ne (by simpa using n)]; exact h) (fun c m => ?_) (fun c m z => ?_) (fun c f z => ?_) fun _ f => f
  · have : c = a := by simpa using m
    subst this; exact .inl ⟨_, s⟩
  · have : c = a := by simpa using z
    subst this; exact n m
  · have : c = a := by simpa using z
    subst this; exact hf f
theorem lframe1 {a : Addr} {us us' : List V} {L : Lcs} {σ : L2.St} {ws : List (List Addr)} (s : H a = some (.lst us)) (r : LReps K H F L σ ws) (n : a ∉ ws.flatten) (hf : ¬ F a) : LReps K (upd H a (.lst us')) F L σ ws := by
  refine r.frame (B := [a]) (fun c o h n => by rw [upd_ne (by simpa using n)]; exact h) (fun c m => ?_) (fun c m z => ?_) (fun c f z => ?_) fun _ f => f
  · have : c = a := by simpa using m
    subst this; exact .inl ⟨_, s⟩
  · have : c = a := by simpa using z
    subst this; exact n m
  · have : c = a := by simpa using z
    subst this; exact hf f

/-- the list at a path, its place, and what a change there makes of the whole -/
theorem path_at : ∀ {is : List Int} {d : D} {v : V} {W : List Addr} {ds : List D}, Reps K H F [d] [v] W → Wf H F W → atPath d is = some (.lst true ds) →
    ∃ a us Wi W', PathW H v is (.ref a) ∧ H a = some (.lst us) ∧ Reps K H F ds us Wi ∧ W.Perm (a :: (Wi ++ W')) ∧
      ∀ (f : List D → Option (List D)) us' ds' d' Wi', Reps K (upd H a (.lst us')) F ds' us' Wi' → f ds = some ds' → updPath f d is = some d' → ∃ W2, Reps K (upd H a (.lst us')) F [d'] [v] W2 ∧ W2.Perm (a :: (Wi' ++ W'))
  | [], d, v, W, ds, r, w, h => by
    simp only [atPath, Option.some.injEq] at h
    subst h
    obtain ⟨a, us, Wi, rfl, s, re, _, e2, _⟩ := r.lstI
    have e2 := e2 rfl
    subst e2
    refine ⟨a, us, Wi, [], .nil, s, re, by simp, fun f us' ds' d' Wi' r' e1 e2 => ?_⟩
    simp only [updPath, e1, Option.some.injEq] at e2
    subst e2
    have := Reps.own (F := F) (W2 := []) (upd_same (H := H) (a := a) (o := .lst us')) r' .nil
    exact ⟨a :: Wi', by simpa using this, by simp⟩
  | i :: is, d, v, W, ds, r, w, h => by
    unfold atPath at h
    split at h
    · rename_i hh; exact absurd hh (List.cons_ne_nil _ _)
    · rename_i es i' is' e1
      cases e1
      split at h <;> try (cases h)
      rename_i d1 e1
      obtain ⟨b, vs, W1, rfl, s, re, _, e2, _⟩ := r.lstI
      have e2 := e2 rfl
      subst e2
      unfold atI at e1
      obtain ⟨j, ej, e1⟩ := Option.bind_eq_some_iff.mp e1
      have hl := re.length
      obtain ⟨v1, Wa, Wd, Wb, h1, rfl, ra, rd, rb⟩ := re.split3 e1
      have wd : Wf H F Wd := w.sub (((List.sublist_append_left Wd Wb).trans (List.sublist_append_right Wa _)).trans (List.sublist_cons_self ..))
      obtain ⟨a, us, Wi, W', p1, p2, p3, p4, p5⟩ := path_at rd wd h
      have ham : a ∈ Wd := p4.mem_iff.mpr List.mem_cons_self
      have nd := List.nodup_cons.mp w.nd
      have nd2 := List.nodup_append.mp nd.2
      have nd3 := List.nodup_append.mp nd2.2.1
      have hba : b ≠ a := fun z => nd.1 (by rw [z]; exact List.mem_append_right _ (List.mem_append_left _ ham))
      have hfa : ¬ F a := wd.dj a ham
      refine ⟨a, us, Wi, b :: (Wa ++ (Wb ++ W')), .cons s (by rw [← hl]; exact ej) h1 p1, p2, p3, ?_, fun f us' ds' d' Wi' r' e1' e2' => ?_⟩
      · refine List.Perm.trans (l₂ := b :: (Wa ++ ((a :: (Wi ++ W')) ++ Wb))) (List.Perm.cons _ (List.Perm.append_left _ (List.Perm.append_right _ p4))) ?_
        refine List.perm_iff_count.mpr fun c => ?_
        simp only [List.cons_append, List.count_cons, List.count_append]
        omega
      · unfold updPath at e2'
        simp only [ej, e1] at e2'
        split at e2' <;> simp only [Option.some.injEq, reduceCtorEq] at e2'
        rename_i d1' ed
        subst e2'
        obtain ⟨W2, q1, q2⟩ := p5 f us' ds' d1' Wi' r' e1' ed
        have ra' := frame1 (us' := us') p2 ra (fun z => nd2.2.2 a z a (List.mem_append_left _ ham) rfl) hfa
        have rb' := frame1 (us' := us') p2 rb (fun z => nd3.2.2 a ham a z rfl) hfa
        have hj := (List.getElem?_eq_some_iff.mp e1).1
        have rj := Reps.join3 ra' q1 rb' hj hl
        have ev : vs.set j v1 = vs := by
          obtain ⟨h2, h3⟩ := List.getElem?_eq_some_iff.mp h1
          rw [← h3]; exact List.set_getElem_self h2
        rw [ev] at rj
        have := Reps.own (F := F) (W2 := []) (show (upd H a (.lst us')) b = some (.lst vs) by rw [upd_ne hba]; exact s) rj .nil
        refine ⟨b :: (Wa ++ (W2 ++ Wb)), by simpa using this, ?_⟩
        refine List.Perm.trans (l₂ := b :: (Wa ++ ((a :: (Wi' ++ W')) ++ Wb))) (List.Perm.cons _ (List.Perm.append_left _ (List.Perm.append_right _ q2))) ?_
        refine List.perm_iff_count.mpr fun c => ?_
        simp only [List.cons_append, List.count_cons, List.count_append]
        omega
    · cases h

/-- a slot's list at a path is changed -/
theorem slot_upd {L : Lcs} {σ : L2.St} {ws : List (List Addr)} {i : Nat} {d : D} {is : List Int} {ds : List D} {W0 : List Addr} (l : LReps K H F L σ ws) (hd : L[i]? = some (some d)) (w : Wf H F (W0 ++ ws.flatten)) (hp : atPath d is = some (.lst true ds)) :
    ∃ v a us Wi W', σ[i]? = some (some v) ∧ PathW H v is (.ref a) ∧ H a = some (.lst us) ∧ Reps K H F ds us Wi ∧ (ws.getD i []).Perm (a :: (Wi ++ W')) ∧ ¬ F a ∧ a ∉ W0 ∧ a ∉ Wi ∧
      ∀ (f : List D → Option (List D)) us' ds' d' Wi' W0' R, f ds = some ds' → updPath f d is = some d' → Reps K (upd H a (.lst us')) F ds' us' Wi' → (W0 ++ Wi).Perm ((W0' ++ Wi') ++ R) →
        ∃ ws', LReps K (upd H a (.lst us')) F (L.set i (some d')) σ ws' ∧ Wf (upd H a (.lst us')) F (W0' ++ ws'.flatten) ∧ Ext H F (W0 ++ ws.flatten) (upd H a (.lst us')) F (W0' ++ ws'.flatten) := by
  obtain ⟨v, e1, r, hi⟩ := l.get hd
  have pw := flat_take (ws := ws) (i := i) hi
  have wp : Wf H F (W0 ++ (ws.getD i [] ++ (ws.set i []).flatten)) := w.perm (List.Perm.append_left _ pw)
  have wi : Wf H F (ws.getD i []) := wp.sub ((List.sublist_append_left ..).trans (List.sublist_append_right ..))
  obtain ⟨a, us, Wi, W', p1, p2, p3, p4, p5⟩ := path_at r wi hp
  have wq : Wf H F (W0 ++ ((a :: (Wi ++ W')) ++ (ws.set i []).flatten)) := wp.perm (List.Perm.append_left _ (List.Perm.append_right _ p4))
  have nq := List.nodup_append.mp wq.nd
  have nq2 := List.nodup_cons.mp nq.2.1
  refine ⟨v, a, us, Wi, W', e1, p1, p2, p3, p4, wq.dj a (List.mem_append_right _ List.mem_cons_self), fun z => nq.2.2 a z a List.mem_cons_self rfl, fun z => nq2.1 (List.mem_append_left _ (List.mem_append_left _ z)), fun f us' ds' d' Wi' W0' R e2 e3 r' pm => ?_⟩
  obtain ⟨W2, q1, q2⟩ := p5 f us' ds' d' Wi' r' e2 e3
  have hfa : ¬ F a := wq.dj a (List.mem_append_right _ List.mem_cons_self)
  have l1 := lframe1 (us' := us') p2 (l.forget i) (fun z => nq2.1 (List.mem_append_right _ z)) hfa
  have l2 := l1.put (i := i) e1 q1
  rw [List.set_set, List.set_set] at l2
  have pn : (ws.set i W2).flatten.Perm (W2 ++ (ws.set i []).flatten) := flat_set hi
  -- all that is ours, counted
  have big : ((W0' ++ (ws.set i W2).flatten) ++ R).Perm (W0 ++ ws.flatten) := by
    have c1 := fun c => List.perm_iff_count.mp pm c
    have c2 := fun c => List.perm_iff_count.mp pn c
    have c3 := fun c => List.perm_iff_count.mp pw c
    have c4 := fun c => List.perm_iff_count.mp p4 c
    have c5 := fun c => List.perm_iff_count.mp q2 c
    refine List.perm_iff_count.mpr fun c => ?_
    have c1 := c1 c; have c2 := c2 c; have c3 := c3 c; have c4 := c4 c; have c5 := c5 c
    simp only [List.count_append, List.count_cons] at *
    omega
  have mem : ∀ c ∈ W0' ++ (ws.set i W2).flatten, c ∈ W0 ++ ws.flatten := fun c m => big.mem_iff.mp (List.mem_append_left _ m)
  have al : ∀ c, H c ≠ none → (upd H a (.lst us')) c ≠ none := fun c h => by
    by_cases hc : c = a
    · subst hc; rw [upd_same]; exact fun z => nomatch z
    · rw [upd_ne hc]; exact h
  refine ⟨ws.set i W2, l2, ⟨?_, fun c m => w.dj c (mem c m), fun c f => al c (w.tr c f)⟩, ⟨fun c o h n => ?_, fun c m => .inl (mem c m), fun _ f => f, fun _ f => .inl f, al⟩⟩
  · exact (List.nodup_append.mp (big.nodup_iff.mpr w.nd)).1
  · rw [upd_ne fun z => n ?_]
    · exact h
    · rw [z]
      exact List.mem_append_right _ (flat_mem (i := i) (p4.mem_iff.mpr List.mem_cons_self))
end

/-! ## a path in the text -/
def chkPath (Γ : Gam) (i : Nat) : List P → Expr → Bool
  | [], e => match e with | .Name x _ => varOk Γ i x | _ => false
  | p :: ps, e => match e with | .Subscript a b _ => notSlice b && chkP Γ p b && chkPath Γ i ps a | _ => false
section
variable {X : Cx} {Z : EnvQ} {Γ : Gam} {EX : XK} {σ : L2.St} {H : Hp} {F : Addr → Prop} {L : Lcs} {ws : List (List Addr)}
theorem pathInts_snoc {G : Str → Option D} : ∀ {ps : List P} {p : P} {is : List Int}, pathInts G L (ps ++ [p]) = some is → ∃ js k, is = js ++ [k] ∧ pathInts G L ps = some js ∧ pur G p L = some (.int k)
  | [], p, is, h => by
    simp only [List.nil_append, pathInts] at h
    split at h
    · rename_i i js e1 e2
      cases e2
      cases h
      exact ⟨[], i, rfl, rfl, e1⟩
    · cases h
  | q :: ps, p, is, h => by
    simp only [List.cons_append, pathInts] at h
    split at h
    · rename_i i js e1 e2
      cases h
      obtain ⟨js', k, rfl, e3, e4⟩ := pathInts_snoc e2
      exact ⟨i :: js', k, rfl, by simp only [pathInts, e1, e3], e4⟩
    · cases h
theorem path_E (G : Good X Z Γ EX) {i : Nat} : ∀ {ps : List P} {e : Expr} {is : List Int} {v x : V} {H : Hp}, chkPath Γ i ps e = true → LReps X.K H F L σ ws → σ[i]? = some (some v) → pathInts Z.G L ps.reverse = some is → PathW H v is x →
    ∀ {Q : VK}, (∀ H', KA H H' → Q x H') → tW X e σ H Q
  | [], e, is, v, x, H, h, l, hv, hi, pw, Q, q => by
    unfold chkPath at h
    split at h <;> try (exact absurd h Bool.false_ne_true)
    simp only [List.reverse_nil, pathInts, Option.some.injEq] at hi
    subst hi
    cases pw
    exact toW (G.var h) ⟨v, hv, q H (KA.refl H)⟩
  | p :: ps, e, is, v, x, H, h, l, hv, hi, pw, Q, q => by
    unfold chkPath at h
    split at h <;> try (exact absurd h Bool.false_ne_true)
    rename_i a b pos
    simp only [Bool.and_eq_true] at h
    obtain ⟨⟨h1, h2⟩, h3⟩ := h
    rw [List.reverse_cons] at hi
    obtain ⟨js, k, rfl, e1, e2⟩ := pathInts_snoc hi
    obtain ⟨c, us, j, a1, a2, a3, a4⟩ := pw.snoc
    refine toW (pe_ix ix_list peW peW (plainIx h1)) (path_E G h3 l hv e1 a1 fun H1 k1 => ?_)
    refine (soundP G p b h2 (k1.lreps l) e2).1 fun u H2 pv => ?_
    obtain ⟨W1, r, m1, m2⟩ := pv.ex
    have k2 : KA H1 H2 := pv.ka
    refine ⟨c, us, k, x, rfl, r.intI, .inl (.inl (k2 _ _ (k1 _ _ a2))), ?_, ?_⟩
    · unfold atI; rw [a3]; exact a4
    · exact q H2 (k1.trans k2)
end
end Q

namespace Q
open PySem L2 PySem.Spec

/-! ## expressions in the text -/
def fnOk (Γ : Gam) (f : Str) : Expr → Bool
  | .Name x _ => decide (x = f) && glOk Γ f && decide (f ∈ Γ.fs)
  | _ => false
def sqAst (Γ : Gam) : SqO → Expr → Option Expr
  | .list, e => callB1 Γ "list" e
  | .tuple, e => callB1 Γ "tuple" e
  | .sum, e => callB1 Γ "sum" e
  | .all, e => callB1 Γ "all" e
  | .any, e => callB1 Γ "any" e
  | .min, e => callB1 Γ "min" e
  | .max, e => callB1 Γ "max" e
  | .sorted, e => callB1 Γ "sorted" e
def scOf (Γ : Gam) : Scope := { kind := .function, names := Γ.sn, isGenerator := false, isCoroutine := false }
def ownOf (Γ : Gam) (vs : List Nat) : List (Str × Nat) := vs.map fun i => ((Γ.N[i]?).getD (Str.ofString ""), i)
def relN (Γ : Gam) (scope : Scope) : List (Str × NameKind) := scope.names.map fun (n, k) => if (k == .free && Γ.sn.lookup n == some .cell) then (n, .cell) else (n, k)
def gamB (Γ : Gam) (scope : Scope) (vs : List Nat) : Gam := { Γ with sn := relN Γ scope, wr := (ownOf Γ vs).map (·.1) }
def blkGood (Γ : Gam) (scope : Scope) (vs : List Nat) : Bool :=
  blkC Γ.N (scOf Γ) scope (ownOf Γ vs) && decide vs.Nodup && ((ownOf Γ vs).map (·.1)).all fun x => (decide ((relN Γ scope).lookup x = some .local)) || (decide ((relN Γ scope).lookup x = some .cell) && decide (scope.names.lookup x = some .cell))

/-- its value may be a test -/
def tstOk : E → Bool
  | .ife .. => false
  | .mv _ => false
  | .nev => false
  | .popi .. => false
  | _ => true
def cnOk : Es → Bool
  | .nil => true
  | .cons e _ => tstOk e
def o1Ok (o : O1) (a : E) : Bool := match o with | .not => tstOk a | _ => true
def posOk (Γ : Gam) : Es → Option Expr → Bool
  | .nil, none => true
  | .cons (.p p) .nil, some e => chkP Γ p e
  | _, _ => false
mutual
def chkE (Γ : Gam) : E → Expr → Bool
  | .p p, e => chkP Γ p e
  | .mv i, e => match e with | .Name x _ => varOk Γ i x | _ => false
  | .o1 o a, e => match ast1 Γ o e with | some x => chkE Γ a x && o1Ok o a | none => false
  | .o2 o a b, e => match ast2 Γ o e with | some (x, y) => chkE Γ a x && chkE Γ b y | none => false
  | .and a b, e => match e with | .BoolOp .And (x :: y :: zs) pos => chkE Γ a x && chkE Γ b (tailB .And y zs pos) && tstOk a && tstOk b | _ => false
  | .or a b, e => match e with | .BoolOp .Or (x :: y :: zs) pos => chkE Γ a x && chkE Γ b (tailB .Or y zs pos) && tstOk a && tstOk b | _ => false
  | .ife c a b, e => match e with | .IfExp t x y _ => chkE Γ c t && tstOk c && chkE Γ a x && chkE Γ b y | _ => false
  | .tup es, e => match e with | .Tuple xs _ _ => plainOf xs && decide (xs.length ≤ 1000) && chkEs Γ es xs | _ => false
  | .lst es, e => match e with | .List xs _ => plainOf xs && decide (xs.length ≤ 1000) && chkEs Γ es xs | _ => false
  | .call f kw es, e => match e with
    | .Call x xs ks _ => fnOk Γ f x && (match kw with
      | [] => ks.isEmpty && plainOf xs && !xs.isEmpty && chkEs Γ es xs
      | k :: kr => xs.isEmpty && decide (ks.map (·.arg) = (k :: kr).map some) && decide ((f, k :: kr) ∈ Γ.ks) && chkEs Γ es (ks.map (·.value)))
    | _ => false
  | .sq o a, e => match sqAst Γ o e with | some x => chkE Γ a x | none => false
  | .lc vs tg s cs c, e => match e with
    | .ListComp elt [⟨tgt, iter, ifs, as⟩] scope _ => decide (as = 0) && notSet iter && blkGood Γ scope vs && chkTg (gamB Γ scope vs) tg tgt && (tg.slots.all fun i => decide (i ∈ vs)) && chkSrc Γ tgt s iter && chkEs (gamB Γ scope vs) cs ifs && decide (ifs.length ≤ 1) && cnOk cs && chkE (gamB Γ scope vs) c elt
    | _ => false
  | .cat a b, e => match binAst .Add e with | some (x, y) => chkE Γ a x && chkE Γ b y | none => false
  | .rep a b, e => match binAst .Mult e with | some (x, y) => chkE Γ a x && chkE Γ b y | none => false
  | .slice a lo hi, e => match e with | .Subscript x (.Slice l h none _) _ => chkE Γ a x && posOk Γ lo l && posOk Γ hi h | _ => false
  | .popi i path k, e => match e with
    | .Call (.Attribute o nm apos) xs [] cpos => decide (nm = Str.ofString "pop") && (apos.endLine == cpos.line) && chkPath Γ i path.reverse o && plainOf xs && decide (xs.length ≤ 1) && chkEs Γ k xs
    | _ => false
  | .nev, _ => true
def chkEs (Γ : Gam) : Es → List Expr → Bool
  | .nil, [] => true
  | .cons e es, x :: xs => chkE Γ e x && chkEs Γ es xs
  | _, _ => false
def chkSrc (Γ : Gam) (tg : Expr) : Src → Expr → Bool
  | .e e, x => chkE Γ e x
  | .rng es, x => match x with | .Call f xs [] _ => bltOk Γ "range" f && plainOf xs && (decide (xs.length = 1) || decide (xs.length = 2)) && chkEs Γ es xs | _ => false
  | .zip a b, x => match callB2 Γ "zip" x, tg with | some (y, z), .Tuple .. => chkE Γ a y && chkE Γ b z | _, _ => false
  | .enum e, x => match callB1 Γ "enumerate" x, tg with | some y, .Tuple .. => chkE Γ e y | _, _ => false
end

/-- an expression as a test -/
def tst (Z : EnvQ) (c : E) (L : Lcs) : Res (Bool × Lcs) := (rdW Z c (fun L => den Z c L) L).bind fun r => (Res.of (tru r.1)).bind fun b => .ok (b, r.2)

def SE (c : E) : Prop := ∀ {X : Cx} {Z : EnvQ} {Γ : Gam} {EX : XK}, Good X Z Γ EX → ∀ {e : Expr}, chkE Γ c e = true → ∀ {L : Lcs} {σ : L2.St} {ws : List (List Addr)} {H : Hp} {F : Addr → Prop}, LReps X.K H F L σ ws → Wf H F ws.flatten →
  GoalE X EX e σ H F ws.flatten (den Z c L) ∧ (tstOk c = true → GoalT X EX e σ H F ws.flatten (tst Z c L))

def tptW (X : Cx) (ifs : List Expr) : TT := fun σ H Q => ∀ pins s, Inv X pins σ H s →
  wpAny (model X.prog X.w) X.A (forIn ifs true fun c r => if r = true then do let ok ← isTrue c X.env (eval c X.env); pure (ForInStep.yield ok) else pure (ForInStep.yield r)) (TP X pins σ Q) X.xe s
def GoalC (X : Cx) (EX : XK) (ifs : List Expr) (σ : L2.St) (H : Hp) (F : Addr → Prop) (W : List Addr) (r : Res (Bool × Lcs)) : Prop :=
  ∀ Q : Bool → Hp → Prop, After X.K X.mg EX H F W r (fun b L' => ∀ H', PostT X.K H F W σ L' H' → Q b H') → tptW X ifs σ H Q
def PostA (K : PySem.W.Frag) (H : Hp) (F : Addr → Prop) (W : List Addr) (σ : L2.St) (ms : List Bool) (as : List Arg) (L' : Lcs) (vs : List V) (H' : Hp) : Prop :=
  ∃ (F' : Addr → Prop) (W1 : List Addr) (ws' : List (List Addr)), AReps K H' F' σ ms as vs W1 ∧ LReps K H' F' L' σ ws' ∧ Wf H' F' (W1 ++ ws'.flatten) ∧ Ext H F W H' F' (W1 ++ ws'.flatten)
def GoalAr (X : Cx) (EX : XK) (ms : List Bool) (es : List Expr) (σ : L2.St) (H : Hp) (F : Addr → Prop) (W : List Addr) (r : Res (List Arg × Lcs)) : Prop :=
  ∀ Q : List V → Hp → Prop, After X.K X.mg EX H F W r (fun as L' => ∀ vs H', PostA X.K H F W σ ms as L' vs H' → Q vs H') → taW X es σ H Q
def SEs (c : Es) : Prop := ∀ {X : Cx} {Z : EnvQ} {Γ : Gam} {EX : XK}, Good X Z Γ EX → ∀ {es : List Expr}, plainOf es = true → chkEs Γ c es = true → ∀ {L : Lcs} {σ : L2.St} {ws : List (List Addr)} {H : Hp} {F : Addr → Prop}, LReps X.K H F L σ ws → Wf H F ws.flatten →
  GoalA X EX es σ H F ws.flatten (dens Z c L) ∧ (∀ ms, GoalAr X EX ms es σ H F ws.flatten (args Z ms c L))
def tkW (X : Cx) (ks : List PySem.Keyword) : TA := fun σ H Q => ∀ pos pins s, Inv X pins σ H s → wpAny (model X.prog X.w) X.A (evalAll ((backToKw pos (keywordEach ks X.env)).map (·.2))) (AP X pins σ Q) X.xe s
theorem pkW {X : Cx} {ks : List PySem.Keyword} : PK X ks (tkW X ks) := ⟨fun pos pins s σ H Q I h => h pos pins s I⟩
/-- the same of keywords' values -/
def SKs (c : Es) : Prop := ∀ {X : Cx} {Z : EnvQ} {Γ : Gam} {EX : XK}, Good X Z Γ EX → ∀ {ks : List PySem.Keyword}, chkEs Γ c (ks.map (·.value)) = true → ∀ {L : Lcs} {σ : L2.St} {ws : List (List Addr)} {H : Hp} {F : Addr → Prop}, LReps X.K H F L σ ws → Wf H F ws.flatten →
  ∀ Q : List V → Hp → Prop, After X.K X.mg EX H F ws.flatten (args Z [] c L) (fun as L' => ∀ vs H', PostA X.K H F ws.flatten σ [] as L' vs H' → Q vs H') → tkW X ks σ H Q
def SCn (c : Es) : Prop := ∀ {X : Cx} {Z : EnvQ} {Γ : Gam} {EX : XK}, Good X Z Γ EX → ∀ {es : List Expr}, es.length ≤ 1 → cnOk c = true → chkEs Γ c es = true → ∀ {L : Lcs} {σ : L2.St} {ws : List (List Addr)} {H : Hp} {F : Addr → Prop}, LReps X.K H F L σ ws → Wf H F ws.flatten →
  GoalC X EX es σ H F ws.flatten (conds Z c L)
def SSrc (c : Src) : Prop := ∀ {X : Cx} {Z : EnvQ} {Γ : Gam} {EX : XK}, Good X Z Γ EX → ∀ {tg e : Expr}, chkSrc Γ tg c e = true → ∀ {L : Lcs} {σ : L2.St} {ws : List (List Addr)} {H : Hp} {F : Addr → Prop}, LReps X.K H F L σ ws → Wf H F ws.flatten →
  GoalI X EX tg e σ H F ws.flatten (src Z c L)

section
variable {X : Cx} {Z : EnvQ} {Γ : Gam} {EX : XK} {σ : L2.St} {H : Hp} {F : Addr → Prop} {L : Lcs} {ws : List (List Addr)} {e : Expr}
/-- read at once -/
theorem rd_ok (G : Good X Z Γ EX) {c : E} (h : chkE Γ c e = true) (l : LReps X.K H F L σ ws) (w : Wf H F ws.flatten) (g : GoalE X EX e σ H F ws.flatten (den Z c L)) : GoalR X EX e σ H F ws.flatten (rdW Z c (fun L => den Z c L) L) := by
  have gen : (∀ p, c ≠ .p p) → rdW Z c (fun L => den Z c L) L = den Z c L := fun hn => by
    cases c <;> first | rfl | exact absurd rfl (hn _)
  by_cases hp : ∃ p, c = .p p
  · obtain ⟨p, rfl⟩ := hp
    intro Q q
    rw [rdW_p] at q
    cases e1 : pur Z.G p L with
    | none => rw [e1] at q; exact q.elim
    | some d =>
      rw [e1] at q
      refine (soundP G p e (by simpa [chkE] using h) l e1).1 fun v H' pv => ?_
      obtain ⟨W1, r, m1, m2⟩ := pv.ex
      exact q v H' ⟨F, W1, ws, r, pv.ka.lreps l, pv.ka.wf w, pv.ka.ext⟩
  · rw [gen fun p z => hp ⟨p, z⟩]
    intro Q q
    refine g Q ?_
    revert q
    generalize den Z c L = r
    intro q
    cases r with
    | ok a => exact fun v H' p => q v H' p.toR
    | exn c x => exact q
    | bad => exact q
/-- a value's truth -/
theorem tst_gen {c : E} (ht : ttOk e = true) (g : GoalR X EX e σ H F ws.flatten (rdW Z c (fun L => den Z c L) L)) : GoalT X EX e σ H F ws.flatten (tst Z c L) := by
  intro Q q
  refine tt_gen ht (g.use q fun d L1 v H1 h1 pr => ?_)
  obtain ⟨b, eb, h2⟩ := h1.of
  obtain ⟨F', W1, ws', r, l, w, x⟩ := pr
  exact ⟨b, tru_of r eb, h2 H1 ⟨F', ws', l, w, x⟩⟩

theorem mv_ok (G : Good X Z Γ EX) {i : Nat} (h : chkE Γ (.mv i) e = true) (l : LReps X.K H F L σ ws) (w : Wf H F ws.flatten) : GoalE X EX e σ H F ws.flatten (den Z (.mv i) L) := by
  intro Q q
  simp only [chkE] at h
  split at h <;> try (exact absurd h Bool.false_ne_true)
  rw [den_mv] at q
  split at q <;> try (exact q.elim)
  rename_i d hd
  obtain ⟨v, e1, r, hi⟩ := l.get hd
  refine toW (G.var h) ⟨v, e1, q v H ⟨F, _, _, r, l.forget i, w.perm (flat_take hi), Ext.refl.sub fun a m => (flat_take hi).mem_iff.mpr m⟩⟩

theorem o1_E (G : Good X Z Γ EX) {o : O1} {a : E} (ih : SE a) (h : chkE Γ (.o1 o a) e = true) (l : LReps X.K H F L σ ws) (w : Wf H F ws.flatten) :
    GoalE X EX e σ H F ws.flatten (den Z (.o1 o a) L) ∧ (tstOk (.o1 o a) = true → GoalT X EX e σ H F ws.flatten (tst Z (.o1 o a) L)) := by
  simp only [chkE] at h
  split at h <;> try (exact absurd h Bool.false_ne_true)
  rename_i x he
  simp only [Bool.and_eq_true] at h
  obtain ⟨g, gt⟩ := ih G h.1 l w
  have gr := rd_ok G h.1 l w g
  have val : GoalE X EX e σ H F ws.flatten (den Z (.o1 o a) L) := by
    intro Q q
    rw [den_o1] at q
    refine o1_ok G he (gr.use q fun d L1 v H1 h1 pr => ?_)
    obtain ⟨y, ey, h2⟩ := h1.of
    obtain ⟨F', W1, ws', r, l1, w1, x1⟩ := pr
    exact ⟨F', d, y, W1, r, ey, fun v' H' k rr => h2 v' H' ⟨F', [], ws', rr F', k.lreps l1, by simpa using k.wf w1, by simpa using x1.trans k.ext⟩⟩
  refine ⟨val, fun _ => ?_⟩
  rcases ast1_ttOk he with ⟨pos, rfl, rfl⟩ | ht
  · intro Q q
    have e1 : tst Z (.o1 .not a) L = (tst Z a L).bind fun r => .ok (!r.1, r.2) := by
      unfold tst
      have : rdW Z (.o1 .not a) (fun L => den Z (.o1 .not a) L) L = den Z (.o1 .not a) L := rfl
      rw [this, den_o1]
      generalize rdW Z a (fun L => den Z a L) L = r
      cases r with
      | ok p =>
        simp only [Res.bind, ap1]
        cases hk : tru p.1 with
        | none => rfl
        | some b => rfl
      | exn c x => rfl
      | bad => rfl
    rw [e1] at q
    exact toTW (pt_not ptW) ((gt h.2).use q fun b L1 H1 h1 pt => h1 H1 pt)
  · exact tst_gen ht (rd_ok (c := .o1 o a) G (by simp only [chkE, he, Bool.and_eq_true]; exact h) l w val)

theorem o2_E (G : Good X Z Γ EX) {o : O2} {a b : E} (iha : SE a) (ihb : SE b) (h : chkE Γ (.o2 o a b) e = true) (l : LReps X.K H F L σ ws) (w : Wf H F ws.flatten) :
    GoalE X EX e σ H F ws.flatten (den Z (.o2 o a b) L) ∧ (tstOk (.o2 o a b) = true → GoalT X EX e σ H F ws.flatten (tst Z (.o2 o a b) L)) := by
  have h0 := h
  simp only [chkE] at h
  split at h <;> try (exact absurd h Bool.false_ne_true)
  rename_i x y he
  simp only [Bool.and_eq_true] at h
  have val : GoalE X EX e σ H F ws.flatten (den Z (.o2 o a b) L) := by
    intro Q q
    rw [den_o2] at q
    refine o2_ok G he ((iha G h.1 l w).1.use q fun d L1 v H1 h1 pv => ?_)
    obtain ⟨F1, W1, ws1, r1, l1, w1, x1⟩ := pv
    have gb := rd_ok G h.2 l1 w1.right (ihb G h.2 l1 w1.right).1
    refine gb.use (h1.step x1 fun a m => List.mem_append_right _ m) fun d2 L2 u H2 h2 pr => ?_
    obtain ⟨F2, W2, ws2, r2, l2, w2, x2⟩ := pr
    obtain ⟨r1', w12, x12⟩ := aside r1 l1.muts w1 x2 w2
    obtain ⟨z, ez, h3⟩ := h2.of
    refine ⟨F2, F2, d, d2, z, W1, W2, r1', r2, ez, fun v' H' W' k rr sb => h3 v' H' ⟨F2, W', ws2, rr, k.lreps l2, k.wf (w12.sub (List.Sublist.append sb (List.Sublist.refl _))), ?_⟩⟩
    exact ((x1.trans x12).trans k.ext).sub fun a m => (List.Sublist.append sb (List.Sublist.refl _)).subset m
  exact ⟨val, fun _ => tst_gen (ast2_ttOk he) (rd_ok (c := .o2 o a b) G h0 l w val)⟩

theorem PostT.trans {K : PySem.W.Frag} {H1 : Hp} {F1 : Addr → Prop} {W W1 : List Addr} {L' : Lcs} {H' : Hp} (x : Ext H F W H1 F1 W1) (p : PostT K H1 F1 W1 σ L' H') : PostT K H F W σ L' H' := by
  obtain ⟨F', ws', l, w, y⟩ := p
  exact ⟨F', ws', l, w, x.trans y⟩
theorem bl_post {K : PySem.W.Frag} {H1 : Hp} {F1 : Addr → Prop} {W : List Addr} {ws1 : List (List Addr)} {L' : Lcs} {k : Bool} (l : LReps K H1 F1 L' σ ws1) (w : Wf H1 F1 ws1.flatten) (x : Ext H F W H1 F1 ws1.flatten) : PostVs K H F W σ [.bl k] L' [.bl k] H1 :=
  ⟨F1, [], ws1, .bl .nil, l, by simpa using w, by simpa using x⟩

theorem and_E (G : Good X Z Γ EX) {a b : E} (iha : SE a) (ihb : SE b) (h : chkE Γ (.and a b) e = true) (l : LReps X.K H F L σ ws) (w : Wf H F ws.flatten) :
    GoalE X EX e σ H F ws.flatten (den Z (.and a b) L) ∧ (tstOk (.and a b) = true → GoalT X EX e σ H F ws.flatten (tst Z (.and a b) L)) := by
  simp only [chkE] at h
  split at h <;> try (exact absurd h Bool.false_ne_true)
  rename_i x y zs pos
  simp only [Bool.and_eq_true] at h
  obtain ⟨⟨⟨ha, hb⟩, ta⟩, tb⟩ := h
  obtain ⟨ga, gta⟩ := iha G ha l w
  refine ⟨?_, fun _ => ?_⟩
  · intro Q q
    rw [den_and] at q
    refine toW (pe_and peW tailPE) ((rd_ok G ha l w ga).use q fun d L1 v H1 h1 pr => ?_)
    obtain ⟨F1, W1, ws1, r1, l1, w1, x1⟩ := pr
    obtain ⟨k, rfl, h2⟩ := h1.bool
    refine ⟨k, r1.blI, ?_⟩
    cases k with
    | true =>
      rw [if_pos rfl] at h2 ⊢
      refine (rd_ok G hb l1 w1 (ihb G hb l1 w1).1).use (h2.step x1 fun a m => m) fun d2 L2 u H2 h3 pr2 => ?_
      obtain ⟨F2, W2, ws2, r2, l2, w2, x2⟩ := pr2
      obtain ⟨k2, rfl, h4⟩ := h3.bool
      have h4 : ∀ v H', PostVs X.K H F ws.flatten σ [.bl k2] L2 [v] H' → Q v H' := h4
      rw [r2.blI]
      exact h4 _ _ (bl_post l2 w2 (x1.trans x2))
    | false =>
      rw [if_neg Bool.false_ne_true] at h2 ⊢
      have h2 : ∀ v H', PostVs X.K H F ws.flatten σ [.bl false] L1 [v] H' → Q v H' := h2
      exact h2 _ _ (bl_post l1 w1 x1)
  · intro Q q
    have e1 : tst Z (.and a b) L = (rdW Z a (fun L => den Z a L) L).bind fun r => (bool? r.1).bind fun k => if k then (rdW Z b (fun L => den Z b L) r.2).bind fun q => (bool? q.1).bind fun k2 => .ok (k2, q.2) else .ok (false, r.2) := by
      unfold tst
      have : rdW Z (.and a b) (fun L => den Z (.and a b) L) L = den Z (.and a b) L := rfl
      rw [this, den_and]
      generalize rdW Z a (fun L => den Z a L) L = r
      cases r with
      | ok p =>
        simp only [Res.bind]
        cases p.1 <;> simp only [bool?]
        rename_i k
        cases k with
        | false => rfl
        | true =>
          simp only [if_true]
          generalize rdW Z b (fun L => den Z b L) p.2 = r2
          cases r2 with
          | ok p2 => simp only; cases p2.1 <;> rfl
          | exn c x => rfl
          | bad => rfl
      | exn c x => rfl
      | bad => rfl
    rw [e1] at q
    have toT : ∀ {c : E} {L : Lcs} {H1 : Hp} {F1 : Addr → Prop} {W1 : List Addr} {f : Bool → Lcs → Res (Bool × Lcs)} {post : Bool → Lcs → Prop}, After X.K X.mg EX H1 F1 W1 ((rdW Z c (fun L => den Z c L) L).bind fun r => (bool? r.1).bind fun k => f k r.2) post → After X.K X.mg EX H1 F1 W1 ((tst Z c L).bind fun r => f r.1 r.2) post := by
      intro c L H1 F1 W1 f post hq
      unfold tst
      revert hq
      generalize rdW Z c (fun L => den Z c L) L = r
      intro hq
      cases r with
      | ok p =>
        obtain ⟨d, L1⟩ := p
        cases d <;> first | exact hq.elim | exact hq
      | exn c x => exact hq
      | bad => exact hq
    refine toTW (PW.pt (pw_and ptW tailAnd)) ((gta ta).use (toT (f := fun k L => if k = true then (rdW Z b (fun L => den Z b L) L).bind fun q => (bool? q.1).bind fun k2 => .ok (k2, q.2) else .ok (false, L)) q) fun k L1 H1 h1 pt => ?_)
    obtain ⟨F1, ws1, l1, w1, x1⟩ := pt
    cases k with
    | true =>
      rw [if_pos rfl]
      rw [if_pos rfl] at h1
      exact ((ihb G hb l1 w1).2 tb).use (f := fun r => .ok (r.1, r.2)) (toT (f := fun k L => .ok (k, L)) (h1.step x1 fun a m => m)) fun k2 L2 H2 h2 pt2 => h2 H2 (PostT.trans x1 pt2)
    | false =>
      rw [if_neg Bool.false_ne_true]
      rw [if_neg Bool.false_ne_true] at h1
      exact h1 H1 ⟨F1, ws1, l1, w1, x1⟩
theorem or_E (G : Good X Z Γ EX) {a b : E} (iha : SE a) (ihb : SE b) (h : chkE Γ (.or a b) e = true) (l : LReps X.K H F L σ ws) (w : Wf H F ws.flatten) :
    GoalE X EX e σ H F ws.flatten (den Z (.or a b) L) ∧ (tstOk (.or a b) = true → GoalT X EX e σ H F ws.flatten (tst Z (.or a b) L)) := by
  simp only [chkE] at h
  split at h <;> try (exact absurd h Bool.false_ne_true)
  rename_i x y zs pos
  simp only [Bool.and_eq_true] at h
  obtain ⟨⟨⟨ha, hb⟩, ta⟩, tb⟩ := h
  obtain ⟨ga, gta⟩ := iha G ha l w
  refine ⟨?_, fun _ => ?_⟩
  · intro Q q
    rw [den_or] at q
    refine toW (pe_or peW tailPE) ((rd_ok G ha l w ga).use q fun d L1 v H1 h1 pr => ?_)
    obtain ⟨F1, W1, ws1, r1, l1, w1, x1⟩ := pr
    obtain ⟨k, rfl, h2⟩ := h1.bool
    refine ⟨k, r1.blI, ?_⟩
    cases k with
    | false =>
      rw [if_neg Bool.false_ne_true] at h2 ⊢
      refine (rd_ok G hb l1 w1 (ihb G hb l1 w1).1).use (h2.step x1 fun a m => m) fun d2 L2 u H2 h3 pr2 => ?_
      obtain ⟨F2, W2, ws2, r2, l2, w2, x2⟩ := pr2
      obtain ⟨k2, rfl, h4⟩ := h3.bool
      have h4 : ∀ v H', PostVs X.K H F ws.flatten σ [.bl k2] L2 [v] H' → Q v H' := h4
      rw [r2.blI]
      exact h4 _ _ (bl_post l2 w2 (x1.trans x2))
    | true =>
      rw [if_pos rfl] at h2 ⊢
      have h2 : ∀ v H', PostVs X.K H F ws.flatten σ [.bl true] L1 [v] H' → Q v H' := h2
      exact h2 _ _ (bl_post l1 w1 x1)
  · intro Q q
    have e1 : tst Z (.or a b) L = (rdW Z a (fun L => den Z a L) L).bind fun r => (bool? r.1).bind fun k => if k then .ok (true, r.2) else (rdW Z b (fun L => den Z b L) r.2).bind fun q => (bool? q.1).bind fun k2 => .ok (k2, q.2) := by
      unfold tst
      have : rdW Z (.or a b) (fun L => den Z (.or a b) L) L = den Z (.or a b) L := rfl
      rw [this, den_or]
      generalize rdW Z a (fun L => den Z a L) L = r
      cases r with
      | ok p =>
        simp only [Res.bind]
        cases p.1 <;> simp only [bool?]
        rename_i k
        cases k with
        | true => rfl
        | false =>
          simp only [Bool.false_eq_true, if_false]
          generalize rdW Z b (fun L => den Z b L) p.2 = r2
          cases r2 with
          | ok p2 => simp only; cases p2.1 <;> rfl
          | exn c x => rfl
          | bad => rfl
      | exn c x => rfl
      | bad => rfl
    rw [e1] at q
    have toT : ∀ {c : E} {L : Lcs} {H1 : Hp} {F1 : Addr → Prop} {W1 : List Addr} {f : Bool → Lcs → Res (Bool × Lcs)} {post : Bool → Lcs → Prop}, After X.K X.mg EX H1 F1 W1 ((rdW Z c (fun L => den Z c L) L).bind fun r => (bool? r.1).bind fun k => f k r.2) post → After X.K X.mg EX H1 F1 W1 ((tst Z c L).bind fun r => f r.1 r.2) post := by
      intro c L H1 F1 W1 f post hq
      unfold tst
      revert hq
      generalize rdW Z c (fun L => den Z c L) L = r
      intro hq
      cases r with
      | ok p =>
        obtain ⟨d, L1⟩ := p
        cases d <;> first | exact hq.elim | exact hq
      | exn c x => exact hq
      | bad => exact hq
    refine toTW (PW.pt (pw_or ptW tailOr)) ((gta ta).use (toT (f := fun k L => if k = true then .ok (true, L) else (rdW Z b (fun L => den Z b L) L).bind fun q => (bool? q.1).bind fun k2 => .ok (k2, q.2)) q) fun k L1 H1 h1 pt => ?_)
    obtain ⟨F1, ws1, l1, w1, x1⟩ := pt
    cases k with
    | false =>
      rw [if_neg Bool.false_ne_true]
      rw [if_neg Bool.false_ne_true] at h1
      exact ((ihb G hb l1 w1).2 tb).use (f := fun r => .ok (r.1, r.2)) (toT (f := fun k L => .ok (k, L)) (h1.step x1 fun a m => m)) fun k2 L2 H2 h2 pt2 => h2 H2 (PostT.trans x1 pt2)
    | true =>
      rw [if_pos rfl]
      rw [if_pos rfl] at h1
      exact h1 H1 ⟨F1, ws1, l1, w1, x1⟩

theorem ife_E (G : Good X Z Γ EX) {c a b : E} (ihc : SE c) (iha : SE a) (ihb : SE b) (h : chkE Γ (.ife c a b) e = true) (l : LReps X.K H F L σ ws) (w : Wf H F ws.flatten) :
    GoalE X EX e σ H F ws.flatten (den Z (.ife c a b) L) := by
  simp only [chkE] at h
  split at h <;> try (exact absurd h Bool.false_ne_true)
  rename_i t x y pos
  simp only [Bool.and_eq_true] at h
  obtain ⟨⟨⟨hc, tc⟩, ha⟩, hb⟩ := h
  intro Q q
  have e1 : den Z (.ife c a b) L = (tst Z c L).bind fun r => if r.1 then den Z a r.2 else den Z b r.2 := by
    rw [den_ife]
    unfold tst
    generalize rdW Z c (fun L => den Z c L) L = r
    cases r with
    | ok p => simp only [Res.bind]; cases tru p.1 <;> rfl
    | exn c x => rfl
    | bad => rfl
  rw [e1] at q
  refine toW (pe_ifExp ptW peW peW) (((ihc G hc l w).2 tc).use q fun k L1 H1 h1 pt => ?_)
  obtain ⟨F1, ws1, l1, w1, x1⟩ := pt
  have fin : ∀ {d : D} {L' : Lcs} {v : V} {H' : Hp}, PostVs X.K H1 F1 ws1.flatten σ [d] L' [v] H' → PostVs X.K H F ws.flatten σ [d] L' [v] H' := fun ⟨F', W', ws', r, l', w', x'⟩ => ⟨F', W', ws', r, l', w', x1.trans x'⟩
  have fin2 : ∀ {r : Res (D × Lcs)}, After X.K X.mg EX H F ws.flatten r (fun d L' => ∀ v H', PostVs X.K H F ws.flatten σ [d] L' [v] H' → Q v H') → After X.K X.mg EX H1 F1 ws1.flatten r (fun d L' => ∀ v H', PostVs X.K H1 F1 ws1.flatten σ [d] L' [v] H' → Q v H') := fun {r} hq => by
    have := hq.step x1 (W2 := ws1.flatten) fun a m => m
    cases r with
    | ok p => exact fun v H' pv => this v H' (fin pv)
    | exn c x => exact this
    | bad => exact this
  cases k with
  | true =>
    rw [if_pos rfl]
    rw [if_pos rfl] at h1
    exact (iha G ha l1 w1).1 Q (fin2 h1)
  | false =>
    rw [if_neg Bool.false_ne_true]
    rw [if_neg Bool.false_ne_true] at h1
    exact (ihb G hb l1 w1).1 Q (fin2 h1)
end
end Q

namespace Q
open PySem L2 PySem.Spec
def Es.len : Es → Nat
  | .nil => 0
  | .cons _ es => es.len + 1
theorem dens_len {Z : EnvQ} : ∀ {es : Es} {L L1 : Lcs} {ds : List D}, dens Z es L = .ok (ds, L1) → ds.length = es.len
  | .nil, L, L1, ds, h => by rw [dens_nil] at h; cases h; rfl
  | .cons e es, L, L1, ds, h => by
    rw [dens_cons] at h
    cases h1 : den Z e L with
    | ok p =>
      rw [h1] at h
      simp only [Res.bind] at h
      cases h2 : dens Z es p.2 with
      | ok q => rw [h2] at h; cases h; simp [Es.len, dens_len h2]
      | exn c x => rw [h2] at h; cases h
      | bad => rw [h2] at h; cases h
    | exn c x => rw [h1] at h; cases h
    | bad => rw [h1] at h; cases h
theorem chkEs_len {Γ : Gam} : ∀ {es : Es} {xs : List Expr}, chkEs Γ es xs = true → es.len = xs.length
  | .nil, [], _ => rfl
  | .cons e es, x :: xs, h => by simp only [chkEs, Bool.and_eq_true] at h; simp [Es.len, chkEs_len h.2]
  | .nil, _ :: _, h => by simp [chkEs] at h
  | .cons _ _, [], h => by simp [chkEs] at h
section
variable {X : Cx} {Z : EnvQ} {Γ : Gam} {EX : XK} {σ : L2.St} {H : Hp} {F : Addr → Prop} {L : Lcs} {ws : List (List Addr)} {e : Expr}

theorem PostVs.comp {K : PySem.W.Frag} {H1 H' : Hp} {F1 : Addr → Prop} {W W1 : List Addr} {ds : List D} {L' : Lcs} {vs : List V} (x : Ext H F W H1 F1 W1) (p : PostVs K H1 F1 W1 σ ds L' vs H') : PostVs K H F W σ ds L' vs H' := by
  obtain ⟨F', W', ws', r, l, w, y⟩ := p
  exact ⟨F', W', ws', r, l, w, x.trans y⟩
theorem len1000 {n : Nat} (h : n ≤ 1000) : n ≤ sizeLine := Nat.le_trans h (by rw [sizeLine_eq]; decide)
theorem notin_of {p : Addr} {W1 : List Addr} (hp : H p = none) (m : ∀ a ∈ W1, IsMut H a) : p ∉ W1 := fun z => (m p z).some hp

/-- a new list of our own -/
theorem new_lst {K : PySem.W.Frag} {ds : List D} {vs : List V} {W1 : List Addr} {p : Addr} (r : Reps K H F ds vs W1) (l : LReps K H F L σ ws) (w : Wf H F (W1 ++ ws.flatten)) (hp : H p = none) :
    Reps K (upd H p (.lst vs)) F [.lst true ds] [.ref p] (p :: W1) ∧ LReps K (upd H p (.lst vs)) F L σ ws ∧ Wf (upd H p (.lst vs)) F ((p :: W1) ++ ws.flatten) ∧ Ext H F (W1 ++ ws.flatten) (upd H p (.lst vs)) F ((p :: W1) ++ ws.flatten) := by
  have k : KA H (upd H p (.lst vs)) := KA.new hp
  have n1 : p ∉ W1 ++ ws.flatten := fun z => (List.mem_append.mp z).elim (fun z => (r.muts p z).some hp) fun z => (l.muts p z).some hp
  refine ⟨?_, k.lreps l, ⟨List.nodup_cons.mpr ⟨n1, w.nd⟩, fun a m => ?_, fun a f => (k.wf w).tr a f⟩, ⟨fun a o h _ => k a o h, fun a m => ?_, fun a f => f, fun a f => .inl f, k.ext (F := F) (W := []) |>.live⟩⟩
  · have := Reps.own (F := F) (W2 := []) (upd_same (H := H) (a := p) (o := .lst vs)) (k.reps r) .nil
    simpa using this
  · rcases List.mem_cons.mp m with rfl | m
    · exact fun f => w.tr _ f hp
    · exact w.dj a m
  · rcases List.mem_cons.mp m with rfl | m
    · exact .inr hp
    · exact .inl m
/-- a new tuple -/
theorem new_tup {K : PySem.W.Frag} {ds : List D} {vs : List V} {W1 : List Addr} {p : Addr} (r : Reps K H F ds vs W1) (l : LReps K H F L σ ws) (w : Wf H F (W1 ++ ws.flatten)) (hp : H p = none) :
    Reps K (upd H p (.tup vs)) F [.tup ds] [.ref p] W1 ∧ LReps K (upd H p (.tup vs)) F L σ ws ∧ Wf (upd H p (.tup vs)) F (W1 ++ ws.flatten) ∧ Ext H F (W1 ++ ws.flatten) (upd H p (.tup vs)) F (W1 ++ ws.flatten) := by
  have k : KA H (upd H p (.tup vs)) := KA.new hp
  refine ⟨?_, k.lreps l, k.wf w, k.ext⟩
  have := Reps.tup (F := F) (W2 := []) (SqT.of (K := K) (upd_same (H := H) (a := p) (o := .tup vs))) (k.reps r) .nil
  simpa using this

theorem tup_E (G : Good X Z Γ EX) {es : Es} (ih : SEs es) (h : chkE Γ (.tup es) e = true) (l : LReps X.K H F L σ ws) (w : Wf H F ws.flatten) : GoalE X EX e σ H F ws.flatten (den Z (.tup es) L) := by
  simp only [chkE] at h
  split at h <;> try (exact absurd h Bool.false_ne_true)
  rename_i xs k pos
  simp only [Bool.and_eq_true, decide_eq_true_eq] at h
  intro Q q
  rw [den_tup] at q
  refine toW (pe_tup paW) ((((ih G h.1.1 h.2 l w).1.use q fun ds L1 vs H1 he h1 pv => ?_)))
  obtain ⟨F1, W1, ws1, r1, l1, w1, x1⟩ := pv
  have h1 : ∀ v H', PostVs X.K H F ws.flatten σ [.tup ds] L1 [v] H' → Q v H' := h1
  refine ⟨?_, fun p hp => ?_⟩
  · rw [← r1.length, dens_len he, chkEs_len h.2]; exact len1000 h.1.2
  · obtain ⟨a, b, c, d⟩ := new_tup r1 l1 w1 hp
    exact h1 _ _ ⟨F1, W1, ws1, a, b, c, x1.trans d⟩
theorem lst_E (G : Good X Z Γ EX) {es : Es} (ih : SEs es) (h : chkE Γ (.lst es) e = true) (l : LReps X.K H F L σ ws) (w : Wf H F ws.flatten) : GoalE X EX e σ H F ws.flatten (den Z (.lst es) L) := by
  simp only [chkE] at h
  split at h <;> try (exact absurd h Bool.false_ne_true)
  rename_i xs pos
  simp only [Bool.and_eq_true, decide_eq_true_eq] at h
  intro Q q
  rw [den_lst] at q
  refine toW (pe_lst paW) ((((ih G h.1.1 h.2 l w).1.use q fun ds L1 vs H1 he h1 pv => ?_)))
  obtain ⟨F1, W1, ws1, r1, l1, w1, x1⟩ := pv
  have h1 : ∀ v H', PostVs X.K H F ws.flatten σ [.lst true ds] L1 [v] H' → Q v H' := h1
  refine ⟨?_, fun p hp => ?_⟩
  · rw [← r1.length, dens_len he, chkEs_len h.2]; exact len1000 h.1.2
  · obtain ⟨a, b, c, d⟩ := new_lst r1 l1 w1 hp
    exact h1 _ _ ⟨F1, p :: W1, ws1, a, b, c, x1.trans d⟩

/-! ### lists of expressions -/
theorem es_nil : SEs .nil := by
  intro X Z Γ EX G es hp h L σ ws H F l w
  cases es with
  | cons _ _ => simp [chkEs] at h
  | nil =>
    refine ⟨fun Q q => ?_, fun ms Q q => ?_⟩
    · rw [dens_nil] at q
      have q : ∀ vs H', PostVs X.K H F ws.flatten σ [] L vs H' → Q vs H' := q
      exact toAW pa_nil (q [] H ⟨F, [], ws, .nil, l, by simpa using w, by simpa using Ext.refl⟩)
    · rw [args_nil] at q
      have q : ∀ vs H', PostA X.K H F ws.flatten σ ms [] L vs H' → Q vs H' := q
      exact toAW pa_nil (q [] H ⟨F, [], ws, .nil, l, by simpa using w, by simpa using Ext.refl⟩)
theorem args_go (G : Good X Z Γ EX) {c : E} {cs : Es} {x : Expr} {ms : List Bool} (hc : GoalE X EX x σ H F ws.flatten (den Z c L)) (hx0 : chkE Γ c x = true) (l : LReps X.K H F L σ ws) (w : Wf H F ws.flatten) {Q : List V → Hp → Prop}
    (q : After X.K X.mg EX H F ws.flatten (args Z ms (.cons c cs) L) (fun as L' => ∀ vs H', PostA X.K H F ws.flatten σ ms as L' vs H' → Q vs H')) {Rest : TA}
    (hrest : ∀ {L1 : Lcs} {ws1 : List (List Addr)} {H1 : Hp} {F1 : Addr → Prop}, LReps X.K H1 F1 L1 σ ws1 → Wf H1 F1 ws1.flatten → ∀ Q' : List V → Hp → Prop, After X.K X.mg EX H1 F1 ws1.flatten (args Z ms.tail cs L1) (fun as L' => ∀ vs H', PostA X.K H1 F1 ws1.flatten σ ms.tail as L' vs H' → Q' vs H') → Rest σ H1 Q') :
    tW X x σ H fun v H1 => Rest σ H1 fun vs H2 => Q (v :: vs) H2 := by
  rw [args_cons] at q
  -- the first argument: a name lent, or a value of its own
  have key : ∀ (R : V → Hp → Prop) {β : Type} {f : Arg × Lcs → Res (β × Lcs)} {post : β → Lcs → Prop}, After X.K X.mg EX H F ws.flatten ((argW (ms.headD false) c (fun L => den Z c L) L).bind f) post →
      (∀ (a : Arg) L1 v H1 F1 W1 ws1, After X.K X.mg EX H F ws.flatten (f (a, L1)) post → (∀ {H2 F2 as vs W2}, AReps X.K H2 F2 σ ms.tail as vs W2 → (∀ d, a = .val d → Reps X.K H2 F2 [d] [v] W1) → AReps X.K H2 F2 σ ms (a :: as) (v :: vs) (W1 ++ W2)) →
        (∀ d, a = .val d → Reps X.K H1 F1 [d] [v] W1) → (∀ a ∈ W1, IsMut H1 a) → (W1 = [] ∨ ∃ d, a = .val d) → LReps X.K H1 F1 L1 σ ws1 → Wf H1 F1 (W1 ++ ws1.flatten) → Ext H F ws.flatten H1 F1 (W1 ++ ws1.flatten) → R v H1) → tW X x σ H R := by
    intro R β f post hq hk
    cases hm : ms.headD false with
    | true =>
      rw [hm] at hq
      cases c <;> try (exact hq.elim)
      rename_i p
      cases p <;> try (exact hq.elim)
      rename_i i
      unfold argW at hq
      cases hL : L[i]? with
      | none => simp only [hL] at hq; exact hq.elim
      | some o =>
        cases o with
        | none => simp only [hL] at hq; exact hq.elim
        | some d =>
          simp only [hL] at hq
          have hx := hx0
          simp only [chkE, chkP] at hx
          split at hx <;> try (exact absurd hx Bool.false_ne_true)
          obtain ⟨v, e1, r, hi⟩ := l.get hL
          refine toW (G.var hx) ⟨v, e1, hk (.io i) L v H F [] ws hq (fun {H2 F2 as vs W2} ra _ => .io hm e1 ra) (fun d z => nomatch z) (fun a m => nomatch m) (.inl rfl) l (by simpa using w) (by simpa using Ext.refl)⟩
    | false =>
      rw [hm] at hq
      by_cases hv : ∃ i, c = .p (.var i)
      · obtain ⟨i, rfl⟩ := hv
        unfold argW at hq
        cases hL : L[i]? with
        | none => simp only [hL] at hq; exact hq.elim
        | some o =>
          cases o with
          | none => simp only [hL] at hq; exact hq.elim
          | some d =>
            simp only [hL] at hq
            have hx := hx0
            simp only [chkE, chkP] at hx
            split at hx <;> try (exact absurd hx Bool.false_ne_true)
            obtain ⟨v, e1, r, hi⟩ := l.get hL
            refine toW (G.var hx) ⟨v, e1, hk (.bor i) L v H F [] ws hq (fun {H2 F2 as vs W2} ra _ => .bor hm e1 ra) (fun d z => nomatch z) (fun a m => nomatch m) (.inl rfl) l (by simpa using w) (by simpa using Ext.refl)⟩
      · have e1 : argW false c (fun L => den Z c L) L = (den Z c L).bind fun r => .ok (Arg.val r.1, r.2) := by
          unfold argW
          cases c <;> first | rfl | skip
          rename_i p
          cases p <;> first | rfl | exact absurd ⟨_, rfl⟩ hv
        rw [e1] at hq
        have hq' : After X.K X.mg EX H F ws.flatten ((den Z c L).bind fun r => f (Arg.val r.1, r.2)) post := by
          revert hq
          generalize den Z c L = r
          intro hq
          cases r <;> exact hq
        refine hc.use hq' fun d L1 v H1 h1 pv => ?_
        obtain ⟨F1, W1, ws1, r1, l1, w1, x1⟩ := pv
        exact hk (.val d) L1 v H1 F1 W1 ws1 h1 (fun {H2 F2 as vs W2} ra rd => .val hm (rd d rfl) ra) (fun d' z => by cases z; exact r1) r1.muts (.inr ⟨d, rfl⟩) l1 w1 x1
  refine key _ q fun a L1 v H1 F1 W1 ws1 h1 mk rd mu wv l1 w1 x1 => ?_
  have h1' := h1.step x1 (W2 := ws1.flatten) fun a m => List.mem_append_right _ m
  refine hrest l1 w1.right _ ?_
  revert h1'
  generalize args Z ms.tail cs L1 = r
  intro h1'
  cases r with
  | exn c x => exact h1'
  | bad => exact h1'
  | ok p =>
    obtain ⟨as, L2⟩ := p
    intro vs H2 pa
    obtain ⟨F2, W2, ws2, r2, l2, w2, x2⟩ := pa
    have h1' : ∀ vs H', PostA X.K H F ws.flatten σ ms (a :: as) L2 vs H' → Q vs H' := h1'
    rcases wv with rfl | ⟨d, rfl⟩
    · have rd2 : ∀ d, a = .val d → Reps X.K H2 F2 [d] [v] [] := fun d z =>
        (rd d z).frame (B := ws1.flatten) x2.keep l1.muts (fun a m => nomatch m) (fun a f z => w1.dj a (by simpa using z) f) x2.mono
      have mk2 := mk r2 rd2
      rw [List.nil_append] at mk2
      exact h1' _ _ ⟨F2, W2, ws2, mk2, l2, w2, x1.trans (by simpa using x2)⟩
    · obtain ⟨r1', w12, x12⟩ := aside (rd d rfl) l1.muts w1 x2 w2
      exact h1' _ _ ⟨F2, W1 ++ W2, ws2, mk r2 (fun d' z => by cases z; exact r1'), l2, by rw [List.append_assoc]; exact w12, by rw [List.append_assoc]; exact x1.trans x12⟩
theorem es_cons {c : E} {cs : Es} (ih : SE c) (ihs : SEs cs) : SEs (.cons c cs) := by
  intro X Z Γ EX G es hp h L σ ws H F l w
  cases es with
  | nil => simp [chkEs] at h
  | cons x xs =>
    simp only [chkEs, Bool.and_eq_true] at h
    simp only [plainOf, Bool.and_eq_true] at hp
    have hc := (ih G h.1 l w).1
    refine ⟨fun Q q => ?_, fun ms Q q => ?_⟩
    · rw [dens_cons] at q
      refine toAW (pa_cons peW paW (starEach_of hp.1)) (hc.use q fun d L1 v H1 h1 pv => ?_)
      obtain ⟨F1, W1, ws1, r1, l1, w1, x1⟩ := pv
      refine (ihs G hp.2 h.2 l1 w1.right).1.use (h1.step x1 fun a m => List.mem_append_right _ m) fun ds L2 vs H2 he h2 pv2 => ?_
      obtain ⟨F2, W2, ws2, r2, l2, w2, x2⟩ := pv2
      have h2 : ∀ vs H', PostVs X.K H F ws.flatten σ (d :: ds) L2 vs H' → Q vs H' := h2
      obtain ⟨r1', w12, x12⟩ := aside r1 l1.muts w1 x2 w2
      exact h2 _ _ ⟨F2, W1 ++ W2, ws2, Reps.cons_iff.mpr ⟨W1, W2, rfl, r1', r2⟩, l2, by rw [List.append_assoc]; exact w12, by rw [List.append_assoc]; exact x1.trans x12⟩
    · exact toAW (pa_cons peW paW (starEach_of hp.1)) (args_go G hc h.1 l w q (Rest := taW X xs) fun l1 w1 Q' q' => (ihs G hp.2 h.2 l1 w1).2 ms.tail Q' q')
theorem ks_nil : SKs .nil := by
  intro X Z Γ EX G ks h L σ ws H F l w Q q
  cases ks with
  | cons _ _ => simp [chkEs] at h
  | nil =>
    rw [args_nil] at q
    have q : ∀ vs H', PostA X.K H F ws.flatten σ [] [] L vs H' → Q vs H' := q
    exact fun pos pins s I => pk_nil.run pos pins s σ H Q I (q [] H ⟨F, [], ws, .nil, l, by simpa using w, by simpa using Ext.refl⟩)
theorem ks_cons {c : E} {cs : Es} (ih : SE c) (ihs : SKs cs) : SKs (.cons c cs) := by
  intro X Z Γ EX G ks h L σ ws H F l w Q q
  cases ks with
  | nil => simp [chkEs] at h
  | cons k ks =>
    obtain ⟨nm, x, kpos⟩ := k
    simp only [List.map_cons, chkEs, Bool.and_eq_true] at h
    have hc := (ih G h.1 l w).1
    have := args_go (ms := []) G hc h.1 l w q (Rest := tkW X ks) fun l1 w1 Q' q' => ihs G h.2 l1 w1 Q' q'
    exact fun pos pins s I => (pk_cons peW pkW).run pos pins s σ H Q I this
end
end Q

namespace Q
open PySem L2 PySem.Spec
section
variable {X : Cx} {Z : EnvQ} {Γ : Gam} {EX : XK} {σ : L2.St} {H : Hp} {F : Addr → Prop} {L : Lcs} {ws : List (List Addr)} {e : Expr}

/-! ### calls by names -/
def tCallN0 (m : Nat) (sp : Sp) (gV : List V → List V → List V) (E : XK) (tk : TA) : TE := fun σ H Q => tk σ H fun zs H2 => zs.length = m ∧ sp (gV [] zs) H2 Q E
theorem pe_callK0 {CX : CXT} {k : Nat} {f : Addr} {fd : FuncData} {ps ks : List Str} {sp : Sp} {E : XK} {x : Str} {p pos : Pos} {kws : List PySem.Keyword} {tk : TA} {g : List Value → List Value → List Value} {gV : List V → List V → List V}
    (F : FnOk X.prog X.w X.K X.mg X.base CX k f fd ps sp) (hr : Room k X.A) (hg : Gl X x) (hm : X.mg x = some (.ref f)) (hk : PySem.W.keepIn X.K (.ref f) = true) (hb : KBn X.K fd ps 0 ks g gV) (hx : Passes CX X E)
    (hkw : PK X kws tk) (hall : (backToKw pos (keywordEach kws X.env)).all (·.1.isSome) = true) (hks : (backToKw pos (keywordEach kws X.env)).filterMap (·.1) = ks)
    (hdb : (x == ("__debug__" : Str)) = false) (hpl : ((backTo pos (starEach [] X.env)).any (·.1) || (backToKw pos (keywordEach kws X.env)).any (·.1.isNone)) = false) :
    PE X (.Call (.Name x p) [] kws pos) (tCallN0 ks.length sp gV E tk) := by
  refine ⟨fun pins s σ H Q I h => ?_⟩
  refine wpAny_Call_Name_kw (ld_glob I hg hm ?_ hdb)
  refine PySem.W.callWith_KW0 (h₀ := X.base) I.ok.mod.kin hk hall ?_ hpl
  refine thn (hkw.run pos pins s σ H _ I h) fun ws s2 ⟨zs, H2, I2, rz, l2, q2⟩ => ⟨I2.kIn, ?_⟩
  rw [hks]
  exact run_fnN (us := []) F hr hb hx I2 .nil rz rfl l2 q2
theorem kw_each {env : PySem.Env} {pos : Pos} : ∀ {kws : List PySem.Keyword} {ks : List Str}, kws.map (·.arg) = ks.map some → (backToKw pos (keywordEach kws env)).map (·.1) = ks.map some
  | [], [], _ => rfl
  | k :: kws, n :: ks, h => by
    simp only [List.map_cons, List.cons.injEq] at h
    have ih := kw_each (env := env) (pos := pos) h.2
    obtain ⟨nm, e, kpos⟩ := k
    have hn : nm = some n := h.1
    subst hn
    show some n :: (backToKw pos (keywordEach kws env)).map (·.1) = _
    rw [ih]; rfl
  | [], _ :: _, h => by simp at h
  | _ :: _, [], h => by simp at h
theorem kw_all {env : PySem.Env} {pos : Pos} {kws : List PySem.Keyword} {ks : List Str} (h : kws.map (·.arg) = ks.map some) : (backToKw pos (keywordEach kws env)).all (·.1.isSome) = true := by
  have := kw_each (env := env) (pos := pos) h
  rw [List.all_eq_true]
  intro y hy
  have hm : y.1 ∈ (backToKw pos (keywordEach kws env)).map (·.1) := List.mem_map_of_mem hy
  rw [this] at hm
  obtain ⟨z, _, e⟩ := List.mem_map.mp hm
  rw [← e]; rfl
theorem kw_names {env : PySem.Env} {pos : Pos} {kws : List PySem.Keyword} {ks : List Str} (h : kws.map (·.arg) = ks.map some) : (backToKw pos (keywordEach kws env)).filterMap (·.1) = ks := by
  have := kw_each (env := env) (pos := pos) h
  have e : (backToKw pos (keywordEach kws env)).filterMap (·.1) = ((backToKw pos (keywordEach kws env)).map (·.1)).filterMap id := by rw [List.filterMap_map]; rfl
  rw [e, this]
  simp
theorem kw_plain {env : PySem.Env} {pos : Pos} {kws : List PySem.Keyword} {ks : List Str} (h : kws.map (·.arg) = ks.map some) : ((backTo pos (starEach [] env)).any (·.1) || (backToKw pos (keywordEach kws env)).any (·.1.isNone)) = false := by
  have := kw_all (env := env) (pos := pos) h
  show (false || _) = false
  rw [Bool.false_or, List.any_eq_false]
  intro y hy z
  have := List.all_eq_true.mp this y hy
  cases hv : y.1 <;> simp [hv] at this z

/-! ### calls -/
theorem fnOk_out {f : Str} {e : Expr} (h : fnOk Γ f e = true) : ∃ p, e = .Name f p ∧ glOk Γ f = true ∧ f ∈ Γ.fs := by
  cases e <;> simp only [fnOk, Bool.and_eq_true, decide_eq_true_eq, Bool.false_eq_true] at h
  obtain ⟨⟨rfl, h2⟩, h3⟩ := h
  exact ⟨_, rfl, h2, h3⟩
theorem AReps.len {K : PySem.W.Frag} {ms : List Bool} {as : List Arg} {vs : List V} {W : List Addr} (r : AReps K H F σ ms as vs W) : as.length = vs.length := by
  induction r <;> simp_all
theorem Vals.getL : ∀ {vs : List V} {us : List Value} {i : Nat}, Vals vs us → (vs[i]? = none ∧ us[i]? = none) ∨ ∃ v u, vs[i]? = some v ∧ us[i]? = some u ∧ RelV v u
  | _, _, _, .nil => .inl ⟨rfl, rfl⟩
  | _, _, 0, .cons r _ => .inr ⟨_, _, rfl, rfl, r⟩
  | _, _, i + 1, .cons _ t => by simpa using Vals.getL (i := i) t
theorem Vals.perm {vs : List V} {us : List Value} (h : Vals vs us) : ∀ idx : List Nat, Vals (permL idx vs) (permL idx us)
  | [] => .nil
  | i :: idx => by
    unfold permL
    rcases Vals.getL (i := i) h with ⟨e1, e2⟩ | ⟨v, u, e1, e2, r⟩
    · rw [List.filterMap_cons_none e1, List.filterMap_cons_none e2]; exact Vals.perm h idx
    · rw [List.filterMap_cons_some e1, List.filterMap_cons_some e2]; exact .cons r (Vals.perm h idx)
theorem Reps.permN {K : PySem.W.Frag} {ds : List D} {vs : List V} (r : Reps K H F ds vs []) : ∀ idx : List Nat, Reps K H F (permL idx ds) (permL idx vs) []
  | [] => .nil
  | i :: idx => by
    unfold permL
    have hl := r.length
    cases e1 : ds[i]? with
    | none =>
      have e2 : vs[i]? = none := by rw [List.getElem?_eq_none_iff] at e1 ⊢; omega
      rw [List.filterMap_cons_none e1, List.filterMap_cons_none e2]; exact Reps.permN r idx
    | some d =>
      obtain ⟨v, W1, e2, r1, sb⟩ := r.get e1
      have : W1 = [] := List.sublist_nil.mp sb
      subst this
      rw [List.filterMap_cons_some e1, List.filterMap_cons_some e2]
      exact Reps.cons_iff.mpr ⟨[], [], rfl, r1, Reps.permN r idx⟩
theorem permL_len {α : Type} {xs : List α} : ∀ {idx : List Nat}, (∀ i ∈ idx, i < xs.length) → (permL idx xs).length = idx.length
  | [], _ => rfl
  | i :: idx, h => by
    have e : xs[i]? = some (xs[i]'(h i List.mem_cons_self)) := by simp [h i List.mem_cons_self]
    unfold permL
    rw [List.filterMap_cons_some e, List.length_cons, List.length_cons]
    exact congrArg Nat.succ (permL_len fun j m => h j (List.mem_cons_of_mem _ m))
theorem call_E (G : Good X Z Γ EX) {f : Str} {kw : List Str} {es : Es} (ih : SEs es) (ihk : SKs es) (h : chkE Γ (.call f kw es) e = true) (l : LReps X.K H F L σ ws) (w : Wf H F ws.flatten) : GoalE X EX e σ H F ws.flatten (den Z (.call f kw es) L) := by
  simp only [chkE] at h
  split at h <;> try (exact absurd h Bool.false_ne_true)
  rename_i x xs ks pos
  simp only [Bool.and_eq_true] at h
  obtain ⟨hf, h⟩ := h
  obtain ⟨p, rfl, hg, hm⟩ := fnOk_out hf
  obtain ⟨g1, g2, g3⟩ := G.gl hg
  obtain ⟨⟨a, fd, k, m1, m2, m3, m4, m5, m6⟩, pass, _⟩ := G.ca f hm
  cases kw with
  | nil =>
    simp only [Bool.and_eq_true] at h
    obtain ⟨⟨⟨hks, hpl⟩, hne⟩, hes⟩ := h
    have hk : ks = [] := by simpa using hks
    subst hk
    cases xs with
    | nil => simp at hne
    | cons y ys =>
      simp only [plainOf, Bool.and_eq_true] at hpl
      intro Q q
      rw [den_call] at q
      refine toW (pe_call (dvs := []) m3 m4 g1 m1 m2 m5 .nil pass paW g2 (starEach_of hpl.1) (plain_any hpl.2)) ?_
      show taW X (y :: ys) σ H fun vs H1 => SpF X.K X.mg Z f (vs ++ []) H1 Q EX
      have ga := (ih G (es := y :: ys) (by simp [plainOf, hpl.1, hpl.2]) hes l w).2 (Z.md f)
      refine ga _ ?_
      revert q
      generalize args Z (Z.md f) es L = r
      intro q
      cases r with
      | exn c x => exact q
      | bad => exact q
      | ok p =>
        obtain ⟨as, L1⟩ := p
        intro vs H1 pa
        rw [List.append_nil]
        obtain ⟨F1, W1, ws1, r1, l1, w1, x1⟩ := pa
        have q' : After X.K X.mg EX H F ws.flatten (if as.length = (Z.ar f).length then callRun Z f as L1 else .bad) (fun d L' => ∀ v H', PostVs X.K H F ws.flatten σ [d] L' [v] H' → Q v H') := q
        split at q'
        · rename_i hl
          refine call_sp r1 l1 w1 (by rw [← r1.len]; exact hl) ?_
          have q2 := q'.step x1 (W2 := W1 ++ ws1.flatten) fun a m => m
          revert q2
          generalize callRun Z f as L1 = r2
          intro q2
          cases r2 with
          | exn c x => exact q2
          | bad => exact q2
          | ok p2 => exact fun v H' pv => q2 v H' (pv.comp x1)
        · exact q'.elim
  | cons k0 kr =>
    simp only [Bool.and_eq_true, decide_eq_true_eq] at h
    obtain ⟨⟨⟨hxs, hnm⟩, hin⟩, hes⟩ := h
    have hx : xs = [] := by simpa using hxs
    subst hx
    intro Q q
    rw [den_callK] at q
    split at q <;> try (exact q.elim)
    rename_i hmd
    refine toW (pe_callK0 m3 m4 g1 m1 m2 (m6 _ hin) pass pkW (kw_all hnm) (kw_names hnm) g2 (kw_plain hnm)) ?_
    refine ihk G hes l w _ ?_
    revert q
    generalize args Z [] es L = r
    intro q
    cases r with
    | exn c x => exact q
    | bad => exact q
    | ok p =>
      obtain ⟨as, L1⟩ := p
      intro vs H1 pa
      obtain ⟨F1, W1, ws1, r1, l1, w1, x1⟩ := pa
      have q' : After X.K X.mg EX H F ws.flatten (if as.length = (Z.ar f).length ∧ (k0 :: kr).length = as.length ∧ ((Z.ar f).all fun p => decide (p ∈ k0 :: kr)) = true then callRun (Z.kw (k0 :: kr)) f as L1 else .bad) (fun d L' => ∀ v H', PostVs X.K H F ws.flatten σ [d] L' [v] H' → Q v H') := q
      split at q'
      · rename_i hl
        refine ⟨?_, ?_⟩
        · rw [← r1.len, hl.2.1]
        · have sp : SpF X.K X.mg (Z.kw (k0 :: kr)) f vs H1 Q EX := by
            refine call_sp r1 l1 w1 (by rw [← r1.len]; exact hl.1) ?_
            have q2 := q'.step x1 (W2 := W1 ++ ws1.flatten) fun a m => m
            revert q2
            generalize callRun (Z.kw (k0 :: kr)) f as L1 = r2
            intro q2
            cases r2 with
            | exn c x => exact q2
            | bad => exact q2
            | ok p2 => exact fun v H' pv => q2 v H' (pv.comp x1)
          obtain ⟨ds, Fs, Ws, e1, e2, e3, e4, e5⟩ := sp
          have hno : D.noOwns ds = true := by
            have : ioNone [] ds = true := e4
            cases ds <;> simpa [ioNone] using this
          have := e2.noOwn hno
          subst this
          refine ⟨permL (idxK (k0 :: kr) (Z.ar f)) ds, Fs, [], ?_, by simpa using e2.permN _, e3, ?_, ?_⟩
          · rw [permL_len]
            · simp [idxK]
            · intro i hi
              obtain ⟨p, hp, rfl⟩ := List.mem_map.mp hi
              have hk := List.all_eq_true.mp hl.2.2 p hp
              rw [List.nil_append, ← r1.len, ← hl.2.1]
              exact List.idxOf_lt_length_iff.mpr (by simpa using hk)
          · rw [hmd]
            show ioNone [] _ = true
            have : D.noOwns (permL (idxK (k0 :: kr) (Z.ar f)) ds) = true := by
              rw [noOwns_eq, List.all_eq_true]
              intro y hy
              obtain ⟨i, _, hi⟩ := List.mem_filterMap.mp hy
              rw [noOwns_eq] at hno
              exact List.all_eq_true.mp hno y (List.mem_of_getElem? hi)
            generalize permL (idxK (k0 :: kr) (Z.ar f)) ds = z at this
            cases z <;> simpa [ioNone] using this
          · have e5' : match Z.call f (permL (idxK (k0 :: kr) (Z.ar f)) ds) with
              | .ok (d, os) => ∀ v H' F' W1 W2, Reps X.K H' F' [d] [v] W1 → OReps X.K H' F' os (ioPick [] vs) W2 → Wf H' F' (W1 ++ W2) → Ext H1 Fs [] H' F' (W1 ++ W2) → Q v H'
              | .exn c x => ∀ cls d H' F', ExOk X.K X.mg H' F' c x cls d → Ext H1 Fs [] H' F' [] → EX cls d H'
              | .bad => False := e5
            rw [hmd]
            generalize Z.call f (permL (idxK (k0 :: kr) (Z.ar f)) ds) = rr at e5'
            cases rr with
            | exn c x => exact e5'
            | bad => exact e5'
            | ok pp =>
              obtain ⟨d, os⟩ := pp
              have pk : ∀ {α : Type} (xs : List α), ioPick [] xs = [] := fun xs => by cases xs <;> rfl
              intro v H' F' W1 W2 rd ro wf x
              rw [pk] at ro
              exact e5' v H' F' W1 W2 rd (by rw [pk]; exact ro) wf x
      · exact q'.elim

/-! ### through a list or tuple at once -/
def PostS (K : PySem.W.Frag) (H : Hp) (F : Addr → Prop) (W : List Addr) (σ : L2.St) (d : D) (L' : Lcs) (v : V) (H' : Hp) : Prop :=
  ∃ (F' : Addr → Prop) (W1 W2 : List Addr) (ws' : List (List Addr)), Reps K H' F' [d] [v] W1 ∧ W2.Sublist W1 ∧ (∀ ds, d.els = some ds → ∃ a us, v = .ref a ∧ ((∃ ts, d = .tup ts) ∧ SqT K H' a us ∨ (∀ ts, d ≠ .tup ts) ∧ SqL K H' a us) ∧ Reps K H' F' ds us W2) ∧ LReps K H' F' L' σ ws' ∧ Wf H' F' (W2 ++ ws'.flatten) ∧ Ext H F W H' F' (W2 ++ ws'.flatten)
theorem Reps.els2 {K : PySem.W.Frag} {d : D} {v : V} {ds : List D} {W : List Addr} (r : Reps K H F [d] [v] W) (h : d.els = some ds) : ∃ a us W2, v = .ref a ∧ ((∃ ts, d = .tup ts) ∧ SqT K H a us ∨ (∀ ts, d ≠ .tup ts) ∧ SqL K H a us) ∧ Reps K H F ds us W2 ∧ W2.Sublist W := by
  cases d <;> simp only [D.els, Option.some.injEq, reduceCtorEq] at h
  · subst h; obtain ⟨a, us, e, s, r1⟩ := r.tupI; exact ⟨a, us, W, e, .inl ⟨⟨_, rfl⟩, s⟩, r1, List.Sublist.refl _⟩
  · subst h; obtain ⟨a, us, W1, e, s, r1, sb, _⟩ := r.lstI; exact ⟨a, us, W1, e, .inr ⟨(fun _ z => nomatch z), SqL.of s⟩, r1, sb⟩
  · subst h; obtain ⟨a, us, e, s, r1⟩ := r.frzI; exact ⟨a, us, [], e, .inr ⟨(fun _ z => nomatch z), s.sq⟩, r1, List.nil_sublist _⟩
theorem seqW_ok (G : Good X Z Γ EX) {c : E} (ih : SE c) (h : chkE Γ c e = true) (l : LReps X.K H F L σ ws) (w : Wf H F ws.flatten) {Q : VK} {β : Type} {f : D × Lcs → Res (β × Lcs)} {post : β → Lcs → Prop}
    (q : After X.K X.mg EX H F ws.flatten ((seqW Z c (fun L => den Z c L) L).bind f) post) (k : ∀ d L1 v H1, After X.K X.mg EX H F ws.flatten (f (d, L1)) post → LenOk H1 → PostS X.K H F ws.flatten σ d L1 v H1 → Q v H1) : tW X e σ H Q := by
  have own : After X.K X.mg EX H F ws.flatten ((den Z c L).bind f) post → tW X e σ H Q := fun hq => by
    refine (tW.len ((ih G h l w).1.use (R := fun v H1 => ∃ d L1, After X.K X.mg EX H F ws.flatten (f (d, L1)) post ∧ PostVs X.K H F ws.flatten σ [d] L1 [v] H1) hq fun d L1 v H1 h1 pv => ⟨d, L1, h1, pv⟩)).mono fun v H1 ⟨⟨d, L1, h1, pv⟩, lo⟩ => ?_
    refine k d L1 v H1 h1 lo ?_
    obtain ⟨F1, W1, ws1, r1, l1, w1, x1⟩ := pv
    cases he : d.els with
    | none => exact ⟨F1, W1, W1, ws1, r1, List.Sublist.refl _, (fun ds z => by rw [he] at z; cases z), l1, w1, x1⟩
    | some ds =>
      obtain ⟨a, us, W2, ev, s, r2, sb⟩ := r1.els2 he
      refine ⟨F1, W1, W2, ws1, r1, sb, fun ds' z => by rw [he] at z; cases z; exact ⟨a, us, ev, s, r2⟩, l1, w1.sub (List.Sublist.append sb (List.Sublist.refl _)), x1.sub fun a m => (List.Sublist.append sb (List.Sublist.refl _)).subset m⟩
  by_cases hp : ∃ p, c = .p p
  · obtain ⟨p, rfl⟩ := hp
    unfold seqW at q
    simp only at q
    cases e1 : pur Z.G p L with
    | none => simp only [e1] at q; exact q.elim
    | some d =>
      simp only [e1] at q
      cases e2 : d.els with
      | none => simp only [e2] at q; exact q.elim
      | some ds =>
        simp only [e2] at q
        split at q
        · rename_i hn
          refine (tW.len ((soundP G p e (by simpa [chkE] using h) l e1).1 (Q := fun v H' => PV X.K H F ws p d v H') fun v H' pv => pv)).mono fun v H' ⟨pv, lo⟩ => ?_
          obtain ⟨W1, r, m1, m2⟩ := pv.ex
          obtain ⟨a, us, W2, ev, s, r2, sb⟩ := r.els2 e2
          have e3 := r2.noOwn hn
          subst e3
          exact k d L v H' q lo ⟨F, W1, [], ws, r, List.nil_sublist _, fun ds' z => by rw [e2] at z; cases z; exact ⟨a, us, ev, s, r2⟩, pv.ka.lreps l, by simpa using pv.ka.wf w, by simpa using pv.ka.ext⟩
        · exact own q
  · have e1 : seqW Z c (fun L => den Z c L) L = den Z c L := by
      cases c <;> first | rfl | exact absurd ⟨_, rfl⟩ hp
    rw [e1] at q
    exact own q
theorem ints_of {K : PySem.W.Frag} {ds : List D} : ∀ {us : List V} {W : List Addr} {is : List Int}, Reps K H F ds us W → ints? ds = some is → us = is.map V.int := by
  induction ds with
  | nil =>
    intro us W is r h
    cases r
    simp [ints?] at h
    subst h; rfl
  | cons d ds ih =>
    intro us W is r h
    cases us with
    | nil => cases r
    | cons u us =>
      obtain ⟨W1, W2, rfl, r1, r2⟩ := Reps.cons_iff.mp r
      cases d <;> simp only [ints?, reduceCtorEq] at h
      rename_i i
      split at h <;> simp only [Option.some.injEq, reduceCtorEq] at h
      rename_i js h1
      subst h
      rw [r1.intI, ih r2 h1]
      rfl
theorem bools_of {K : PySem.W.Frag} {ds : List D} : ∀ {us : List V} {W : List Addr} {is : List Bool}, Reps K H F ds us W → bools? ds = some is → us = is.map V.bl := by
  induction ds with
  | nil =>
    intro us W is r h
    cases r
    simp [bools?] at h
    subst h; rfl
  | cons d ds ih =>
    intro us W is r h
    cases us with
    | nil => cases r
    | cons u us =>
      obtain ⟨W1, W2, rfl, r1, r2⟩ := Reps.cons_iff.mp r
      cases d <;> simp only [bools?, reduceCtorEq] at h
      rename_i i
      split at h <;> simp only [Option.some.injEq, reduceCtorEq] at h
      rename_i js h1
      subst h
      rw [r1.blI, ih r2 h1]
      rfl
theorem sqAst_ttOk {o : SqO} {x : Expr} (h : sqAst Γ o e = some x) : ttOk e = true := by
  cases o <;> (obtain ⟨f, pos, rfl, _⟩ := callB1_out h; rfl)
theorem sq_E (G : Good X Z Γ EX) {o : SqO} {a : E} (ih : SE a) (h : chkE Γ (.sq o a) e = true) (l : LReps X.K H F L σ ws) (w : Wf H F ws.flatten) : GoalE X EX e σ H F ws.flatten (den Z (.sq o a) L) := by
  simp only [chkE] at h
  split at h <;> try (exact absurd h Bool.false_ne_true)
  rename_i x he
  intro Q q
  rw [den_sq] at q
  cases o with
  | list =>
    refine ty1 (id := "list") G he call_list_of (by decide +kernel) (seqW_ok G ih h l w q fun d L1 v H1 h1 lo ps => ?_)
    obtain ⟨y, ey, h2⟩ := h1.of
    obtain ⟨F1, W1, W2, ws1, r1, sb, op, l1, w1, x1⟩ := ps
    simp only [apS] at ey
    split at ey <;> simp only [Option.some.injEq, reduceCtorEq] at ey
    rename_i ds hd
    subst ey
    obtain ⟨p, us, rfl, s, r2⟩ := op ds hd
    refine ⟨p, us, rfl, s.elim (fun z => .inr z.2) (fun z => .inl z.2), fun n hn => ?_⟩
    obtain ⟨a1, a2, a3, a4⟩ := new_lst r2 l1 w1 hn
    exact h2 _ _ ⟨F1, n :: W2, ws1, a1, a2, a3, x1.trans a4⟩
  | tuple =>
    refine ty1 (id := "tuple") G he call_tuple_of (by decide +kernel) (seqW_ok G ih h l w q fun d L1 v H1 h1 lo ps => ?_)
    obtain ⟨y, ey, h2⟩ := h1.of
    obtain ⟨F1, W1, W2, ws1, r1, sb, op, l1, w1, x1⟩ := ps
    simp only [apS] at ey
    split at ey <;> simp only [Option.some.injEq, reduceCtorEq] at ey
    rename_i ds hd
    subst ey
    obtain ⟨p, us, rfl, s, r2⟩ := op ds hd
    refine ⟨p, us, rfl, ?_⟩
    rcases s with ⟨⟨ts, rfl⟩, s⟩ | ⟨_, s⟩
    · refine .inr ⟨s, h2 _ _ ⟨F1, W2, ws1, ?_, l1, w1, x1⟩⟩
      have := Reps.tup s r2 (Reps.nil (K := X.K) (H := H1) (F := F1))
      simpa using this
    · refine .inl ⟨s, fun n hn => ?_⟩
      obtain ⟨a1, a2, a3, a4⟩ := new_tup r2 l1 w1 hn
      exact h2 _ _ ⟨F1, W2, ws1, a1, a2, a3, x1.trans a4⟩
  | sum =>
    refine b1 (id := "sum") G he (cr_sum G.calm) (by decide +kernel) (seqW_ok G ih h l w q fun d L1 v H1 h1 lo ps => ?_)
    obtain ⟨y, ey, h2⟩ := h1.of
    obtain ⟨F1, W1, W2, ws1, r1, sb, op, l1, w1, x1⟩ := ps
    cases d <;> simp only [apS, reduceCtorEq] at ey
    split at ey <;> simp only [Option.some.injEq, reduceCtorEq] at ey
    rename_i is hi
    subst ey
    obtain ⟨p, us, rfl, s, r2⟩ := op _ rfl
    rcases s with ⟨⟨ts, z⟩, s⟩ | ⟨_, s⟩
    · cases z
    · refine ⟨p, is, rfl, by rw [← ints_of r2 hi]; exact s, h2 _ _ ⟨F1, [], ws1, .int .nil, l1, by simpa using w1.right, x1.sub fun a m => List.mem_append_right _ (by simpa using m)⟩⟩
  | all =>
    refine b1 (id := "all") G he (cr_all G.calm) (by decide +kernel) (seqW_ok G ih h l w q fun d L1 v H1 h1 lo ps => ?_)
    obtain ⟨y, ey, h2⟩ := h1.of
    obtain ⟨F1, W1, W2, ws1, r1, sb, op, l1, w1, x1⟩ := ps
    cases d <;> simp only [apS, reduceCtorEq] at ey
    split at ey <;> simp only [Option.some.injEq, reduceCtorEq] at ey
    rename_i is hi
    subst ey
    obtain ⟨p, us, rfl, s, r2⟩ := op _ rfl
    rcases s with ⟨⟨ts, z⟩, s⟩ | ⟨_, s⟩
    · cases z
    · refine ⟨p, is, rfl, by rw [← bools_of r2 hi]; exact s, h2 _ _ ⟨F1, [], ws1, .bl .nil, l1, by simpa using w1.right, x1.sub fun a m => List.mem_append_right _ (by simpa using m)⟩⟩
  | any =>
    refine b1 (id := "any") G he (cr_any G.calm) (by decide +kernel) (seqW_ok G ih h l w q fun d L1 v H1 h1 lo ps => ?_)
    obtain ⟨y, ey, h2⟩ := h1.of
    obtain ⟨F1, W1, W2, ws1, r1, sb, op, l1, w1, x1⟩ := ps
    cases d <;> simp only [apS, reduceCtorEq] at ey
    split at ey <;> simp only [Option.some.injEq, reduceCtorEq] at ey
    rename_i is hi
    subst ey
    obtain ⟨p, us, rfl, s, r2⟩ := op _ rfl
    rcases s with ⟨⟨ts, z⟩, s⟩ | ⟨_, s⟩
    · cases z
    · refine ⟨p, is, rfl, by rw [← bools_of r2 hi]; exact s, h2 _ _ ⟨F1, [], ws1, .bl .nil, l1, by simpa using w1.right, x1.sub fun a m => List.mem_append_right _ (by simpa using m)⟩⟩
  | min =>
    refine b1 (id := "min") G he (cr_min G.calm) (by decide +kernel) (seqW_ok G ih h l w q fun d L1 v H1 h1 lo ps => ?_)
    obtain ⟨y, ey, h2⟩ := h1.of
    simp [apS] at ey
  | max =>
    refine b1 (id := "max") G he (cr_max G.calm) (by decide +kernel) (seqW_ok G ih h l w q fun d L1 v H1 h1 lo ps => ?_)
    obtain ⟨y, ey, h2⟩ := h1.of
    simp [apS] at ey
  | sorted =>
    refine b1 (id := "sorted") G he cr_sorted (by decide +kernel) (seqW_ok G ih h l w q fun d L1 v H1 h1 lo ps => ?_)
    obtain ⟨y, ey, h2⟩ := h1.of
    simp [apS] at ey

theorem reps_replicate {K : PySem.W.Frag} {ds : List D} {us : List V} (r : Reps K H F ds us []) : ∀ n : Nat, Reps K H F (List.replicate n ds).flatten (List.replicate n us).flatten []
  | 0 => by simpa using Reps.nil
  | n + 1 => by
    simp only [List.replicate_succ, List.flatten_cons]
    exact r.append (reps_replicate r n)
theorem rep_E (G : Good X Z Γ EX) {a b : E} (iha : SE a) (ihb : SE b) (h : chkE Γ (.rep a b) e = true) (l : LReps X.K H F L σ ws) (w : Wf H F ws.flatten) : GoalE X EX e σ H F ws.flatten (den Z (.rep a b) L) := by
  simp only [chkE] at h
  split at h <;> try (exact absurd h Bool.false_ne_true)
  rename_i x y he
  simp only [Bool.and_eq_true] at h
  obtain ⟨pos, rfl⟩ := binAst_out he
  intro Q q
  rw [den_rep] at q
  refine toW (pe_op op_rep peW peW) ((iha G h.1 l w).1.use q fun d L1 v H1 h1 pv => ?_)
  obtain ⟨F1, W1, ws1, r1, l1, w1, x1⟩ := pv
  refine (rd_ok G h.2 l1 w1.right (ihb G h.2 l1 w1.right).1).use (h1.step x1 fun a m => List.mem_append_right _ m) fun d2 L2 u H2 h2 pr => ?_
  obtain ⟨F2, W2, ws2, r2, l2, w2, x2⟩ := pr
  obtain ⟨r1', w12, x12⟩ := aside r1 l1.muts w1 x2 w2
  obtain ⟨z, ez, h3⟩ := h2.of
  cases d <;> cases d2 <;> simp only [repRun, reduceCtorEq] at ez
  rename_i own ds i
  split at ez <;> simp only [Option.some.injEq, reduceCtorEq] at ez
  rename_i hc
  subst ez
  simp only [Bool.and_eq_true, decide_eq_true_eq] at hc
  obtain ⟨⟨⟨hn, hl⟩, hlo⟩, hhi⟩ := hc
  obtain ⟨p, us, We, rfl, s, re, sb, _⟩ := r1'.lstI
  have := re.noOwn hn
  subst this
  have e3 := re.length
  refine ⟨p, i, us, rfl, r2.intI, s, by omega, by omega, by rw [← e3, sizeLine_eq]; omega, fun n hn2 => ?_⟩
  obtain ⟨a1, a2, a3, a4⟩ := new_lst (reps_replicate re i.toNat) l2 (by simpa using w2) hn2
  exact h3 _ _ ⟨F2, [n], ws2, a1, a2, a3, ((x1.trans x12).sub fun a m => List.mem_append_right _ m).trans (by simpa using a4)⟩
theorem cat_E (G : Good X Z Γ EX) {a b : E} (iha : SE a) (ihb : SE b) (h : chkE Γ (.cat a b) e = true) (l : LReps X.K H F L σ ws) (w : Wf H F ws.flatten) : GoalE X EX e σ H F ws.flatten (den Z (.cat a b) L) := by
  simp only [chkE] at h
  split at h <;> try (exact absurd h Bool.false_ne_true)
  rename_i x y he
  simp only [Bool.and_eq_true] at h
  obtain ⟨pos, rfl⟩ := binAst_out he
  intro Q q
  rw [den_cat] at q
  refine toW (pe_op (OpR.or op_add op_cat) peW peW) ((iha G h.1 l w).1.use q fun d L1 v H1 h1 pv => ?_)
  obtain ⟨F1, W1, ws1, r1, l1, w1, x1⟩ := pv
  refine (ihb G h.2 l1 w1.right).1.use (h1.step x1 fun a m => List.mem_append_right _ m) fun d2 L2 u H2 h2 pv2 => ?_
  obtain ⟨F2, W2, ws2, r2, l2, w2, x2⟩ := pv2
  obtain ⟨r1', w12, x12⟩ := aside r1 l1.muts w1 x2 w2
  obtain ⟨z, ez, h3⟩ := h2.of
  cases d <;> cases d2 <;> simp only [catRun, reduceCtorEq, Option.some.injEq] at ez
  · subst ez
    exact .inl ⟨_, _, r1'.intI, r2.intI, h3 _ _ ⟨F2, [], ws2, .int .nil, l2, by simpa using w2.right, ((x1.trans x12).sub fun a m => by simpa using Or.inr (Or.inr m))⟩⟩
  · rename_i o1 ds o2 es
    split at ez <;> simp only [Option.some.injEq, reduceCtorEq] at ez
    rename_i hl
    subst ez
    obtain ⟨p, us, We, rfl, s, re, sb, _⟩ := r1'.lstI
    obtain ⟨p2, us2, We2, rfl, s2, re2, sb2, _⟩ := r2.lstI
    have e1 := re.length
    have e2 := re2.length
    refine .inr ⟨p, p2, us, us2, rfl, rfl, s, s2, by rw [sizeLine_eq]; omega, fun n hn => ?_⟩
    have sbs : ((We ++ We2) ++ ws2.flatten).Sublist (W1 ++ (W2 ++ ws2.flatten)) := by
      rw [List.append_assoc]
      exact List.Sublist.append sb (List.Sublist.append sb2 (List.Sublist.refl _))
    obtain ⟨a1, a2, a3, a4⟩ := new_lst (re.append re2) l2 (w12.sub sbs) hn
    exact h3 _ _ ⟨F2, n :: (We ++ We2), ws2, a1, a2, a3, ((x1.trans x12).sub fun a m => sbs.subset m).trans a4⟩

/-! ### sources -/
theorem src_E {c : E} (ih : SE c) : SSrc (.e c) := by
  intro X Z Γ EX G tg e h L σ ws H F l w R q
  simp only [chkSrc] at h
  rw [src_e] at q
  refine toI (pi_seq peW) ?_
  have hq : After X.K X.mg EX H F ws.flatten ((den Z c L).bind fun r => (Res.of r.1.fz.els).bind fun x => .ok (x, r.2)) (fun ds L' => ∀ J H', PostI X.K H F ws.flatten σ ds L' J H' → R J H') := by
    revert q
    generalize den Z c L = r
    intro q
    cases r with
    | ok p => obtain ⟨d, L1⟩ := p; unfold seqF at q; simp only at q; simp only [Res.bind]; cases he : d.fz.els with
      | none => rw [he] at q; exact q
      | some ds => rw [he] at q; exact q
    | exn c x => exact q
    | bad => exact q
  refine (tW.len ((ih G h l w).1.use (R := fun v H1 => ∃ d L1, After X.K X.mg EX H F ws.flatten ((Res.of d.fz.els).bind fun x => .ok (x, L1)) (fun ds L' => ∀ J H', PostI X.K H F ws.flatten σ ds L' J H' → R J H') ∧ PostVs X.K H F ws.flatten σ [d] L1 [v] H1) hq fun d L1 v H1 h1 pv => ⟨d, L1, h1, pv⟩)).mono fun v H1 ⟨⟨d, L1, h1, pv⟩, lo⟩ => ?_
  obtain ⟨F1, W1, ws1, r1, l1, w1, x1⟩ := pv
  obtain ⟨ds, he, h2⟩ := h1.of
  obtain ⟨r2, l2, w2, x2⟩ := freezeT r1 l1 w1
  have r2' : Reps X.K H1 (fun a => F1 a ∨ a ∈ W1) [d.fz] [v] [] := by simpa [D.fzs] using r2
  obtain ⟨a, us, rfl, hz, r3, s⟩ := r2'.elsF he lo
  refine ⟨a, us, rfl, ?_⟩
  have kr : Kp H1 (fun a => F1 a ∨ a ∈ W1) H1 := fun a o h _ => h
  rcases s with ⟨_, s⟩ | ⟨_, s⟩
  · exact .inr ⟨s _ kr, h2 _ _ ⟨_, ws1, walk_tp r3 hz s, l2, w2, x1.trans x2⟩⟩
  · exact .inl ⟨s _ kr, h2 _ _ ⟨_, ws1, walk_lst r3 hz s, l2, w2, x1.trans x2⟩⟩
theorem rngRun_out {ds y : List D} (h : rngRun ds = some y) : (∃ j : Int, ds = [.int j] ∧ (-1000000 < j ∧ j < 1000000) ∧ y = rngD 0 j.toNat) ∨ ∃ i j : Int, ds = [.int i, .int j] ∧ (-1000000 < i ∧ i < 1000000 ∧ -1000000 < j ∧ j < 1000000) ∧ y = rngD i (j - i).toNat := by
  unfold rngRun at h
  split at h
  · rename_i j
    split at h <;> simp only [Option.some.injEq, reduceCtorEq] at h
    rename_i hj
    exact .inl ⟨j, rfl, hj, h.symm⟩
  · rename_i i j
    split at h <;> simp only [Option.some.injEq, reduceCtorEq] at h
    rename_i hj
    exact .inr ⟨i, j, rfl, hj, h.symm⟩
  · cases h
theorem src_R {es : Es} (ih : SEs es) : SSrc (.rng es) := by
  intro X Z Γ EX G tg e h L σ ws H F l w R q
  simp only [chkSrc] at h
  split at h <;> try (exact absurd h Bool.false_ne_true)
  rename_i f xs pos
  simp only [Bool.and_eq_true, Bool.or_eq_true, decide_eq_true_eq] at h
  obtain ⟨⟨⟨hf, hp⟩, hn⟩, hc⟩ := h
  obtain ⟨p, rfl, g1, g2, g3, g4⟩ := G.blt hf
  rw [src_rng] at q
  have ga := (ih G hp hc l w).1
  cases xs with
  | nil => simp at hn
  | cons x xs =>
    cases xs with
    | nil =>
      have ns : notStar x = true := by simpa [plainOf] using hp
      refine toI (pi_range1 g1 g4 paW (starEach_of ns)) (ga.use q fun ds L1 vs H1 he h1 pv => ?_)
      obtain ⟨F1, W1, ws1, r1, l1, w1, x1⟩ := pv
      obtain ⟨y, ey, h2⟩ := h1.of
      have ey : rngRun ds = some y := ey
      rcases rngRun_out ey with ⟨j, rfl, hj, rfl⟩ | ⟨i, j, rfl, _⟩
      · cases r1 with
        | int r1 =>
          cases r1
          exact ⟨j, rfl, by omega, by omega, h2 _ _ ⟨F1, ws1, walk_rng (by omega), l1, by simpa using w1, by simpa using x1⟩⟩
      · have := dens_len he
        rw [chkEs_len hc] at this
        simp at this
    | cons y xs =>
      cases xs with
      | cons _ _ => simp at hn
      | nil =>
        have ns : notStar x = true ∧ notStar y = true := by simpa [plainOf] using hp
        refine toI (pi_range2 g1 g4 paW (by rw [starEach_of ns.1, starEach_of ns.2]; rfl) (by rw [starEach_of ns.2]; rfl)) (ga.use q fun ds L1 vs H1 he h1 pv => ?_)
        obtain ⟨F1, W1, ws1, r1, l1, w1, x1⟩ := pv
        obtain ⟨z, ez, h2⟩ := h1.of
        have ez : rngRun ds = some z := ez
        rcases rngRun_out ez with ⟨j, rfl, _⟩ | ⟨i, j, rfl, hj, rfl⟩
        · have := dens_len he
          rw [chkEs_len hc] at this
          simp at this
        · cases r1 with
          | int r1 =>
            cases r1 with
            | int r1 =>
              cases r1
              exact ⟨i, j, rfl, by omega, h2 _ _ ⟨F1, ws1, walk_rng (by omega), l1, by simpa using w1, by simpa using x1⟩⟩
theorem src_Z {a b : E} (iha : SE a) (ihb : SE b) : SSrc (.zip a b) := by
  intro X Z Γ EX G tg e h L σ ws H F l w R q
  simp only [chkSrc] at h
  split at h <;> try (exact absurd h Bool.false_ne_true)
  rename_i y z elts kk tpos hcb
  simp only [Bool.and_eq_true] at h
  obtain ⟨f, pos, rfl, hf, n1, n2⟩ := callB2_out hcb
  obtain ⟨p, rfl, g1, g2, g3, g4⟩ := G.blt hf
  rw [src_zip] at q
  refine toI (RZ.pi_zipA g1 g4 (pa_cons peW (pa_cons peW pa_nil (starEach_of n2)) (starEach_of n1)) (starEach_of n1) (plain_any (es := [z]) (by simp [plainOf, n2]))) ?_
  show tW X y σ H fun v H1 => tW X z σ H1 fun u H2 => _
  refine (iha G h.1 l w).1.use q fun d L1 v H1 h1 pv => ?_
  obtain ⟨F1, W1, ws1, r1, l1, w1, x1⟩ := pv
  refine (tW.len ((ihb G h.2 l1 w1.right).1.use (R := fun u H2 => ∃ d2 L2, After X.K X.mg EX H1 F1 ws1.flatten ((Res.of (zipRun d.fz d2.fz)).bind fun x => .ok (x, L2)) (fun ds L' => ∀ J H', PostI X.K H F ws.flatten σ ds L' J H' → R J H') ∧ PostVs X.K H1 F1 ws1.flatten σ [d2] L2 [u] H2) (h1.step x1 fun a m => List.mem_append_right _ m) fun d2 L2 u H2 h2 pv2 => ⟨d2, L2, h2, pv2⟩)).mono fun u H2 ⟨⟨d2, L2, h2, pv2⟩, lo⟩ => ?_
  obtain ⟨F2, W2, ws2, r2, l2, w2, x2⟩ := pv2
  obtain ⟨r1', w12, x12⟩ := aside r1 l1.muts w1 x2 w2
  obtain ⟨ds, ez, h3⟩ := h2.of
  have rr : Reps X.K H2 F2 [d, d2] [v, u] (W1 ++ W2) := Reps.cons_iff.mpr ⟨W1, W2, rfl, r1', r2⟩
  obtain ⟨r3, l3, w3, x3⟩ := freezeT rr l2 (by rw [List.append_assoc]; exact w12)
  have r3' : Reps X.K H2 (fun a => F2 a ∨ a ∈ W1 ++ W2) [d.fz, d2.fz] [v, u] [] := by simpa [D.fzs] using r3
  obtain ⟨Wa, Wb, hW, ra, rb⟩ := Reps.cons_iff.mp r3'
  obtain ⟨rfl, rfl⟩ := List.append_eq_nil_iff.mp hW.symm
  have kr : Kp H2 (fun a => F2 a ∨ a ∈ W1 ++ W2) H2 := fun a o h _ => h
  have xx : Ext H F ws.flatten H2 (fun a => F2 a ∨ a ∈ W1 ++ W2) ws2.flatten := (x1.trans x12).trans (by simpa [List.append_assoc] using x3)
  cases hd : d.fz <;> cases hd2 : d2.fz <;> rw [hd, hd2] at ez <;> simp only [zipRun, reduceCtorEq, Option.some.injEq] at ez
  · subst ez
    rw [hd] at ra; rw [hd2] at rb
    obtain ⟨a, us, rfl, hz, r4, s⟩ := ra.elsF rfl lo
    obtain ⟨b, us2, rfl, hz2, r5, s2⟩ := rb.elsF rfl lo
    rcases s with ⟨_, s⟩ | ⟨n, _⟩
    · rcases s2 with ⟨_, s2⟩ | ⟨n, _⟩
      · exact ⟨a, b, us, us2, rfl, .inr ⟨s _ kr, s2 _ kr, h3 _ _ ⟨_, ws2, walk_zipT r4 r5 hz s s2, l3, w3, xx⟩⟩⟩
      · exact absurd rfl (n _)
    · exact absurd rfl (n _)
  · subst ez
    rw [hd] at ra; rw [hd2] at rb
    obtain ⟨a, us, rfl, hz, r4, s⟩ := ra.elsF rfl lo
    obtain ⟨b, us2, rfl, hz2, r5, s2⟩ := rb.elsF rfl lo
    rcases s with ⟨⟨ts, z⟩, _⟩ | ⟨_, s⟩
    · cases z
    · rcases s2 with ⟨⟨ts, z⟩, _⟩ | ⟨_, s2⟩
      · cases z
      · exact ⟨a, b, us, us2, rfl, .inl ⟨s _ kr, s2 _ kr, h3 _ _ ⟨_, ws2, walk_zipL r4 r5 hz s s2, l3, w3, xx⟩⟩⟩
theorem src_N {a : E} (ih : SE a) : SSrc (.enum a) := by
  intro X Z Γ EX G tg e h L σ ws H F l w R q
  simp only [chkSrc] at h
  split at h <;> try (exact absurd h Bool.false_ne_true)
  rename_i y elts kk tpos hcb
  obtain ⟨f, pos, rfl, hf, n1⟩ := callB1_out hcb
  obtain ⟨p, rfl, g1, g2, g3, g4⟩ := G.blt hf
  rw [src_enum] at q
  refine toI (pi_enum g1 g4 (pa_cons peW pa_nil (starEach_of n1)) (starEach_of n1)) ?_
  show tW X y σ H fun v H1 => _
  refine (tW.len ((ih G h l w).1.use (R := fun v H1 => ∃ d L1, After X.K X.mg EX H F ws.flatten ((Res.of (enumRun d.fz)).bind fun x => .ok (x, L1)) (fun ds L' => ∀ J H', PostI X.K H F ws.flatten σ ds L' J H' → R J H') ∧ PostVs X.K H F ws.flatten σ [d] L1 [v] H1) q fun d L1 v H1 h1 pv => ⟨d, L1, h1, pv⟩)).mono fun v H1 ⟨⟨d, L1, h1, pv⟩, lo⟩ => ?_
  obtain ⟨F1, W1, ws1, r1, l1, w1, x1⟩ := pv
  obtain ⟨ds, ez, h2⟩ := h1.of
  obtain ⟨r2, l2, w2, x2⟩ := freezeT r1 l1 w1
  have r2' : Reps X.K H1 (fun a => F1 a ∨ a ∈ W1) [d.fz] [v] [] := by simpa [D.fzs] using r2
  have kr : Kp H1 (fun a => F1 a ∨ a ∈ W1) H1 := fun a o h _ => h
  cases hd : d.fz <;> rw [hd] at ez <;> simp only [enumRun, reduceCtorEq, Option.some.injEq] at ez
  subst ez
  rw [hd] at r2'
  obtain ⟨a, us, rfl, hz, r4, s⟩ := r2'.elsF rfl lo
  rcases s with ⟨⟨ts, z⟩, _⟩ | ⟨_, s⟩
  · cases z
  · exact ⟨a, us, rfl, s _ kr, h2 _ _ ⟨_, ws1, walk_enumL r4 hz s, l2, w2, x1.trans x2⟩⟩

/-! ### tests of a comprehension -/
theorem cn_nil : SCn .nil := by
  intro X Z Γ EX G es hl hc h L σ ws H F l w Q q
  cases es with
  | cons _ _ => simp [chkEs] at h
  | nil =>
    rw [conds_nil] at q
    have q : ∀ H', PostT X.K H F ws.flatten σ L H' → Q true H' := q
    exact fun pins s I => (pts_nil (X := X)).run pins s σ H Q I (q H ⟨F, ws, l, w, Ext.refl⟩)
theorem cn_cons {c : E} {cs : Es} (ih : SE c) : SCn (.cons c cs) := by
  intro X Z Γ EX G es hl hc h L σ ws H F l w Q q
  cases es with
  | nil => simp [chkEs] at h
  | cons x xs =>
    have hx : xs = [] := by cases xs with
      | nil => rfl
      | cons _ _ => simp at hl
    subst hx
    simp only [chkEs, Bool.and_eq_true] at h
    cases cs with
    | cons _ _ => simp [chkEs] at h
    | nil =>
      rw [conds_one] at q
      have := (ih G h.1 l w).2 hc Q q
      exact fun pins s I => (pts_one (ptW (X := X) (e := x))).run pins s σ H Q I this
end
end Q

namespace Q
open PySem L2 PySem.Spec
section
variable {X : Cx} {Z : EnvQ} {Γ : Gam} {EX : XK} {σ : L2.St} {H : Hp} {F : Addr → Prop} {L : Lcs} {ws : List (List Addr)} {e : Expr}

/-! ### comprehensions -/
theorem relN_eq (G : Good X Z Γ EX) (scope : Scope) (cl : List (Str × Addr)) (C : Addr) : (compEnvC scope cl C X.env).scope.names = relN Γ scope := by
  show (scope.names.map fun (n, k) => if (k == NameKind.free && X.env.scope.kind == ScopeKind.function && X.env.kindOf n == some NameKind.cell) then (n, NameKind.cell) else (n, k)) = _
  unfold relN
  congr 1
  funext p
  obtain ⟨n, k⟩ := p
  have e1 : X.env.kindOf n = Γ.sn.lookup n := by rw [← G.sn]; rfl
  have e2 : (X.env.scope.kind == ScopeKind.function) = true := by rw [G.kind]; rfl
  simp only [e1, e2, Bool.and_true]
theorem goodB (G : Good X Z Γ EX) {scope : Scope} {vs : List Nat} (h : blkGood Γ scope vs = true) (s : Shared) (H0 : Hp) (C : Addr) (cl : List (Str × Addr)) (fp : List Addr) :
    Good (X.blk s H0 scope (compEnvC scope cl C X.env) fp) Z (gamB Γ scope vs) E0 := by
  simp only [blkGood, Bool.and_eq_true, decide_eq_true_eq] at h
  obtain ⟨⟨h1, h2⟩, h3⟩ := h
  have ok := blkOk_by h1
  have sn : (compEnvC scope cl C X.env).scope.names = relN Γ scope := relN_eq G scope cl C
  refine ⟨G.calm, ok.kind, G.N, G.nd, sn, fun x hx => ?_, G.bs, G.gs, G.un, fun f hf => ?_⟩
  · have h4 := List.all_eq_true.mp h3 x hx
    simp only [Bool.or_eq_true, Bool.and_eq_true, decide_eq_true_eq] at h4
    show L2.Loc (compEnvC scope cl C X.env).scope x ∧ ((scope.names.lookup x == some .cell) = true ∨ (compEnvC scope cl C X.env).scope.names.lookup x = some .local)
    unfold L2.Loc
    rw [sn]
    rcases h4 with h4 | ⟨h4, h5⟩
    · exact ⟨.inl h4, .inr h4⟩
    · exact ⟨.inr h4, .inl (by rw [h5]; rfl)⟩
  · obtain ⟨a, b, c⟩ := G.ca f hf
    exact ⟨a, passL, c⟩

/-- a thing put behind an own list -/
theorem push_ok {K : PySem.W.Frag} {ds : List D} {a : Addr} {d : D} {v : V} {W0 W1 : List Addr} (r : Reps K H F [.lst true ds] [.ref a] W0) (r2 : Reps K H F [d] [v] W1) (l : LReps K H F L σ ws) (w : Wf H F (W0 ++ (W1 ++ ws.flatten))) :
    ∃ us, H a = some (.lst us) ∧ us.length = ds.length ∧ ∃ W2, Reps K (upd H a (.lst (us ++ [v]))) F [.lst true (ds ++ [d])] [.ref a] W2 ∧ LReps K (upd H a (.lst (us ++ [v]))) F L σ ws ∧ Wf (upd H a (.lst (us ++ [v]))) F (W2 ++ ws.flatten) ∧ Ext H F (W0 ++ (W1 ++ ws.flatten)) (upd H a (.lst (us ++ [v]))) F (W2 ++ ws.flatten) := by
  obtain ⟨b, us, We, e1, s, re, sb, e2, _⟩ := r.lstI
  cases e1
  have e2 := e2 rfl
  subst e2
  refine ⟨us, s, re.length.symm, a :: (We ++ W1), ?_, ?_, ⟨?_, fun c m => ?_, fun c f => ?_⟩, ⟨fun c o h n => ?_, fun c m => .inl ?_, fun _ f => f, fun _ f => .inl f, fun c h => ?_⟩⟩
  · have nd := List.nodup_cons.mp w.nd
    have hd : ∀ c ∈ We ++ W1, c ∉ [a] := fun c m z => by
      have : c = a := by simpa using z
      subst this
      refine nd.1 ?_
      rcases List.mem_append.mp m with m | m
      · exact List.mem_append_left _ m
      · exact List.mem_append_right _ (List.mem_append_left _ m)
    have rr : Reps K (upd H a (.lst (us ++ [v]))) F (ds ++ [d]) (us ++ [v]) (We ++ W1) := by
      refine (re.append r2).frame (B := [a]) (fun c o h n => ?_) (fun c m => ?_) hd (fun c f z => ?_) fun _ f => f
      · rw [upd_ne (by simpa using n)]; exact h
      · have : c = a := by simpa using m
        subst this; exact .inl ⟨_, s⟩
      · have : c = a := by simpa using z
        subst this; exact w.dj c List.mem_cons_self f
    have := Reps.own (F := F) (W2 := []) (upd_same (H := H) (a := a) (o := .lst (us ++ [v]))) rr .nil
    simpa using this
  · have nd := List.nodup_cons.mp w.nd
    refine l.frame (B := [a]) (fun c o h n => ?_) (fun c m => ?_) (fun c m z => ?_) (fun c f z => ?_) fun _ f => f
    · rw [upd_ne (by simpa using n)]; exact h
    · have : c = a := by simpa using m
      subst this; exact .inl ⟨_, s⟩
    · have : c = a := by simpa using z
      subst this; exact nd.1 (List.mem_append_right _ (List.mem_append_right _ m))
    · have : c = a := by simpa using z
      subst this; exact w.dj c List.mem_cons_self f
  · simpa [List.append_assoc] using w.nd
  · exact w.dj c (by simpa [List.append_assoc] using m)
  · by_cases hc : c = a
    · subst hc; rw [upd_same]; exact fun z => nomatch z
    · rw [upd_ne hc]; exact w.tr c f
  · rw [upd_ne fun z => n (by rw [z]; exact List.mem_cons_self)]; exact h
  · simpa [List.append_assoc] using m
  · by_cases hc : c = a
    · subst hc; rw [upd_same]; exact fun z => nomatch z
    · rw [upd_ne hc]; exact h

/-- the readings in any block -/
def gB (X : Cx) (scope : Scope) (tg : Expr) : TG := fun v σ H Q => ∀ (s : Shared) (H0 : Hp) (C : Addr) (cl : List (Str × Addr)) (fp : List Addr), tgW (X.blk s H0 scope (compEnvC scope cl C X.env) fp) tg v σ H Q
def tB (X : Cx) (scope : Scope) (ifs : List Expr) : TT := fun σ H Q => ∀ (s : Shared) (H0 : Hp) (C : Addr) (cl : List (Str × Addr)) (fp : List Addr), tptW (X.blk s H0 scope (compEnvC scope cl C X.env) fp) ifs σ H Q
def eB (X : Cx) (scope : Scope) (elt : Expr) : TE := fun σ H Q => ∀ (s : Shared) (H0 : Hp) (C : Addr) (cl : List (Str × Addr)) (fp : List Addr), tW (X.blk s H0 scope (compEnvC scope cl C X.env) fp) elt σ H Q
theorem pgB {scope : Scope} {tg : Expr} (s : Shared) (H0 : Hp) (C : Addr) (cl : List (Str × Addr)) (fp : List Addr) : PG (X.blk s H0 scope (compEnvC scope cl C X.env) fp) tg (gB X scope tg) := ⟨fun pins s1 σ H v u Q I r h => h s H0 C cl fp pins s1 u I r⟩
theorem ptsB {scope : Scope} {ifs : List Expr} (s : Shared) (H0 : Hp) (C : Addr) (cl : List (Str × Addr)) (fp : List Addr) : PTs (X.blk s H0 scope (compEnvC scope cl C X.env) fp) ifs (tB X scope ifs) := ⟨fun pins s1 σ H Q I h => h s H0 C cl fp pins s1 I⟩
theorem peB {scope : Scope} {elt : Expr} (s : Shared) (H0 : Hp) (C : Addr) (cl : List (Str × Addr)) (fp : List Addr) : PE (X.blk s H0 scope (compEnvC scope cl C X.env) fp) elt (eB X scope elt) := ⟨fun pins s1 σ H Q I h => h s H0 C cl fp pins s1 I⟩

theorem lcRun_cons {tg : Tg} {vs : List Nat} {cond : Lcs → Res (Bool × Lcs)} {elt : Lcs → Res (D × Lcs)} {x : D} {xs : List D} {L Lf : Lcs} {ds : List D} (h : lcRun tg vs cond elt (x :: xs) L = .ok (ds, Lf)) :
    ∃ L1, tg.set x (wipeL L vs) = some L1 ∧ ((∃ L2 d L3 es, cond L1 = .ok (true, L2) ∧ elt L2 = .ok (d, L3) ∧ lcRun tg vs cond elt xs L3 = .ok (es, Lf) ∧ ds = d :: es) ∨ (∃ L2, cond L1 = .ok (false, L2) ∧ lcRun tg vs cond elt xs L2 = .ok (ds, Lf))) := by
  rw [lcRun] at h
  split at h
  · cases h
  · rename_i L1 e1
    refine ⟨L1, e1, ?_⟩
    split at h
    · rename_i L2 e2
      split at h
      · rename_i d L3 e3
        split at h
        · rename_i es L4 e4
          cases h
          exact .inl ⟨L2, d, L3, es, e2, e3, e4, rfl⟩
        · cases h
      · cases h
    · rename_i L2 e2
      exact .inr ⟨L2, e2, h⟩
    · cases h

theorem lcRun_noexn {tg : Tg} {vs : List Nat} {cond : Lcs → Res (Bool × Lcs)} {elt : Lcs → Res (D × Lcs)} : ∀ {xs : List D} {L : Lcs} {c : Str} {d : D}, lcRun tg vs cond elt xs L ≠ .exn c d
  | [], L, c, d, h => by rw [lcRun] at h; cases h
  | x :: xs, L, c, d, h => by
    rw [lcRun] at h
    split at h
    · cases h
    · split at h
      · split at h
        · split at h <;> cases h
        · cases h
      · exact lcRun_noexn h
      · cases h

/-- a comprehension's state ahead of turn i -/
def LcInv (K : PySem.W.Frag) (H1 : Hp) (F1 : Addr → Prop) (W : List Addr) (σ : L2.St) (a : Addr) (vs : List Nat) (run : List D → Lcs → Res (List D × Lcs)) (ds out : List D) (Lf : Lcs) (i : Nat) (H : Hp) : Prop :=
  ∃ (Fi : Addr → Prop) (acc : List D) (W0 : List Addr) (Li : Lcs) (wsi : List (List Addr)) (rest : List D),
    Reps K H Fi [.lst true acc] [.ref a] W0 ∧ acc.length ≤ i ∧ LReps K H Fi (wipeL Li vs) (wipe σ vs) wsi ∧ Wf H Fi (W0 ++ wsi.flatten) ∧ Ext H1 F1 W H Fi (W0 ++ wsi.flatten) ∧ run (ds.drop i) Li = .ok (rest, Lf) ∧ acc ++ rest = out

theorem lc_T (G : Good X Z Γ EX) {vs : List Nat} {tg : Tg} {sc : Src} {cs : Es} {c : E} {elt tgt iter : Expr} {ifs : List Expr} {scope : Scope} (ihs : SSrc sc) (ihc : SCn cs) (ihe : SE c)
    (hb : blkGood Γ scope vs = true) (htg : chkTg (gamB Γ scope vs) tg tgt = true) (hsl : ∀ i ∈ tg.slots, i ∈ vs) (hsrc : chkSrc Γ tgt sc iter = true) (hcs : chkEs (gamB Γ scope vs) cs ifs = true) (hl : ifs.length ≤ 1) (hcn : cnOk cs = true) (helt : chkE (gamB Γ scope vs) c elt = true)
    (l : LReps X.K H F L σ ws) (w : Wf H F ws.flatten) {Q : VK} (q : After X.K X.mg EX H F ws.flatten (den Z (.lc vs tg sc cs c) L) (fun d L' => ∀ v H', PostVs X.K H F ws.flatten σ [d] L' [v] H' → Q v H')) :
    tLc (tiW X tgt iter) (gB X scope tgt) (tB X scope ifs) (eB X scope elt) vs σ H Q := by
  rw [den_lc] at q
  have ndv : vs.Nodup := by
    simp only [blkGood, Bool.and_eq_true, decide_eq_true_eq] at hb
    exact hb.1.2
  refine ihs G hsrc l w _ ?_
  revert q
  generalize src Z sc L = r
  intro q
  cases r with
  | exn c x => exact q
  | bad => exact q
  | ok p =>
    obtain ⟨ds, L1⟩ := p
    intro J H1 pi a ha
    obtain ⟨F1, ws1, wk, l1, w1, x1⟩ := pi
    simp only [Res.bind] at q
    cases hr : lcRun tg vs (fun L => conds Z cs L) (fun L => den Z c L) ds L1 with
    | exn cc x => exact absurd hr lcRun_noexn
    | bad => rw [hr] at q; exact q.elim
    | ok p =>
      obtain ⟨out, Lf⟩ := p
      rw [hr] at q
      have q : ∀ v H', PostVs X.K H F ws.flatten σ [.lst true out] (resetTo L1 (wipeL Lf vs) vs) [v] H' → Q v H' := q
      have kpOf : ∀ {Hn : Hp} {Fn : Addr → Prop} {Wn : List Addr}, Ext H1 F1 ws1.flatten Hn Fn Wn → Kp H1 F1 Hn := fun x => Kp.of x l1.muts w1.dj
      refine lc_it wk.2 (LcInv X.K H1 F1 ws1.flatten σ a vs (lcRun tg vs (fun L => conds Z cs L) (fun L => den Z c L)) ds out Lf) ?_ ?_ ?_ ?_
      · obtain ⟨b1, b2, b3, b4⟩ := new_lst (p := a) (Reps.nil (K := X.K) (H := H1) (F := F1)) l1 (by simpa using w1) ha
        refine ⟨F1, [], [a], L1, wipeWs ws1 vs, out, b1, Nat.le_refl _, b2.wipe vs, b3.sub (List.Sublist.append (List.Sublist.refl _) wipeWs_sub), ?_, by rw [List.drop_zero]; exact hr, rfl⟩
        exact (b4.wid (by simp)).sub fun c m => (List.Sublist.append (List.Sublist.refl [a]) (wipeWs_sub (ws := ws1) (vs := vs))).subset m
      · rintro i Hn _ ⟨Fi, acc, W0, Li, wsi, rest, _, _, _, _, x, _⟩
        exact kpOf x
      · rintro i x Hn H' hi ⟨Fi, acc, W0, Li, wsi, rest, ra, hacc, li, wi, xi, hrun, hout⟩ ⟨ka, d, hd, hrd⟩
        have e1 : ds.drop i = d :: ds.drop (i + 1) := by
          obtain ⟨h1, h2⟩ := List.getElem?_eq_some_iff.mp hd
          rw [← h2]; exact List.drop_eq_getElem_cons h1
        rw [e1] at hrun
        obtain ⟨La, hset, hcase⟩ := lcRun_cons hrun
        have rd := hrd Fi xi.mono
        intro s0 H0 C cl fp
        have GB := goodB G hb s0 H0 C cl fp
        refine tg_ok GB htg (ka.lreps li) rd (W2 := W0) (by simpa using ka.wf wi) hset ?_
        intro us ws' la wa sa
        have hw1 : wipe (setAll (wipe σ vs) tg.slots us) vs = wipe σ vs := by rw [wipe_all hsl, wipe_wipe fun _ m => m]
        refine ⟨hw1, ?_⟩
        have ra' := ka.reps ra
        have xa : Ext H1 F1 ws1.flatten H' Fi (W0 ++ ws'.flatten) := (xi.trans ka.ext).sub fun a m => by
          rcases List.mem_append.mp m with m | m
          · exact List.mem_append_left _ m
          · exact (sa a m).elim (fun z => nomatch z) fun z => List.mem_append_right _ z
        intro s1 H01 C1 cl1 fp1
        have GB1 := goodB G hb s1 H01 C1 cl1 fp1
        refine ihc GB1 hl hcn hcs la wa.right _ ?_
        rcases hcase with ⟨Lb, y, Lc, es, hc1, he1, hr1, he2⟩ | ⟨Lb, hc1, hr1⟩
        · rw [hc1]
          intro H3 pt
          obtain ⟨F3, ws3, l3, w3, x3⟩ := pt
          obtain ⟨ra3, wa3, xa3⟩ := aside ra' la.muts wa x3 w3
          rw [if_pos rfl]
          intro s2 H02 C2 cl2 fp2
          have GB2 := goodB G hb s2 H02 C2 cl2 fp2
          refine (ihe GB2 helt l3 w3).1 _ ?_
          rw [he1]
          intro v H4 pv
          obtain ⟨F4, W4, ws4, r4, l4, w4, x4⟩ := pv
          obtain ⟨ra4, wa4, xa4⟩ := aside ra3 l3.muts wa3 x4 w4
          obtain ⟨us4, h41, h42, W5, r5, l5, w5, x5⟩ := push_ok ra4 r4 l4 wa4
          refine ⟨us4, h41, by rw [h42]; have := wk.1; omega, F4, acc ++ [y], W5, Lc, wipeWs ws4 vs, es, r5, by simp; omega, ?_, w5.sub (List.Sublist.append (List.Sublist.refl _) wipeWs_sub), ?_, hr1, by rw [List.append_assoc]; rw [← hout, he2]; rfl⟩
          · have := l5.wipe vs
            rw [hw1] at this
            exact this
          · exact (((xa.trans xa3).trans xa4).trans x5).sub fun c m => (List.Sublist.append (List.Sublist.refl W5) (wipeWs_sub (ws := ws4) (vs := vs))).subset m
        · rw [hc1]
          intro H3 pt
          obtain ⟨F3, ws3, l3, w3, x3⟩ := pt
          obtain ⟨ra3, wa3, xa3⟩ := aside ra' la.muts wa x3 w3
          rw [if_neg Bool.false_ne_true]
          refine ⟨F3, acc, W0, Lb, wipeWs ws3 vs, rest, ra3, by omega, ?_, wa3.sub (List.Sublist.append (List.Sublist.refl _) wipeWs_sub), ?_, hr1, hout⟩
          · have := l3.wipe vs
            rw [hw1] at this
            exact this
          · exact (xa.trans xa3).sub fun c m => (List.Sublist.append (List.Sublist.refl W0) (wipeWs_sub (ws := ws3) (vs := vs))).subset m
      · rintro Hn ⟨Fi, acc, W0, Li, wsi, rest, ra, hacc, li, wi, xi, hrun, hout⟩
        rw [List.drop_length, lcRun] at hrun
        simp only [Res.ok.injEq, Prod.mk.injEq] at hrun
        obtain ⟨rfl, rfl⟩ := hrun
        rw [List.append_nil] at hout
        subst hout
        have l0 : ∀ i d, was L1 i = some d → ∃ v, σ[i]? = some (some v) ∧ Reps X.K Hn Fi [d] [v] [] := fun i d h => by
          unfold was at h
          split at h <;> try (cases h)
          rename_i d' hd
          split at h <;> simp only [Option.some.injEq, reduceCtorEq] at h
          rename_i hno
          subst h
          obtain ⟨v, e1, r, _⟩ := l1.get hd
          have e2 := r.noOwn (by simpa [D.noOwns] using hno)
          rw [e2] at r
          exact ⟨v, e1, r.kp rfl (kpOf xi) xi.mono⟩
        obtain ⟨ws', l', hw'⟩ := LReps.reset l0 ndv (fun i m o h => wipeL_get o m h) li
        refine q _ _ ⟨Fi, W0, ws', ra, l', by rw [hw']; exact wi, ?_⟩
        rw [hw']
        exact x1.trans xi
end
end Q

namespace Q
open PySem L2 PySem.Spec
section
variable {X : Cx} {Z : EnvQ} {Γ : Gam} {EX : XK} {σ : L2.St} {H : Hp} {F : Addr → Prop} {L : Lcs} {ws : List (List Addr)} {e : Expr}

/-- a value gives its test too -/
theorem se_of {c : E} (tt : ∀ {Γ : Gam} {e : Expr}, chkE Γ c e = true → ttOk e = true ∨ tstOk c = false)
    (g : ∀ {X : Cx} {Z : EnvQ} {Γ : Gam} {EX : XK}, Good X Z Γ EX → ∀ {e : Expr}, chkE Γ c e = true → ∀ {L : Lcs} {σ : L2.St} {ws : List (List Addr)} {H : Hp} {F : Addr → Prop}, LReps X.K H F L σ ws → Wf H F ws.flatten → GoalE X EX e σ H F ws.flatten (den Z c L)) : SE c := by
  intro X Z Γ EX G e h L σ ws H F l w
  refine ⟨g G h l w, fun ht => ?_⟩
  rcases tt h with t | t
  · exact tst_gen t (rd_ok G h l w (g G h l w))
  · rw [t] at ht; cases ht
theorem p_E {p : P} : SE (.p p) := by
  intro X Z Γ EX G e h L σ ws H F l w
  have h' : chkP Γ p e = true := by simpa [chkE] using h
  refine ⟨by intro Q q; rw [den_p] at q; exact keep_ok G h' l w Q q, fun _ => ?_⟩
  intro Q q
  unfold tst at q
  rw [rdW_p] at q
  cases e1 : pur Z.G p L with
  | none => rw [e1] at q; exact q.elim
  | some d =>
    rw [e1] at q
    have q : After X.K X.mg EX H F ws.flatten ((Res.of (tru d)).bind fun b => .ok (b, L)) (fun b L' => ∀ H', PostT X.K H F ws.flatten σ L' H' → Q b H') := q
    obtain ⟨k, ek, h2⟩ := q.of
    exact (soundP G p e h' l e1).2 ek fun H' ka => h2 H' ⟨F, ws, ka.lreps l, ka.wf w, ka.ext⟩
theorem lc_E {vs : List Nat} {tg : Tg} {s : Src} {cs : Es} {c : E} (ihs : SSrc s) (ihc : SCn cs) (ihe : SE c) (G : Good X Z Γ EX) (h : chkE Γ (.lc vs tg s cs c) e = true) (l : LReps X.K H F L σ ws) (w : Wf H F ws.flatten) : GoalE X EX e σ H F ws.flatten (den Z (.lc vs tg s cs c) L) := by
  simp only [chkE] at h
  split at h <;> try (exact absurd h Bool.false_ne_true)
  rename_i elt tgt iter ifs as scope pos
  simp only [Bool.and_eq_true, decide_eq_true_eq] at h
  obtain ⟨⟨⟨⟨⟨⟨⟨⟨⟨rfl, hns⟩, hb⟩, htg⟩, hsl⟩, hsrc⟩, hcs⟩, hl⟩, hcn⟩, helt⟩ := h
  intro Q q
  have hb' := hb
  simp only [blkGood, Bool.and_eq_true, decide_eq_true_eq] at hb'
  have ok : BlkOk X.N X.env.scope scope (ownOf Γ vs) := by
    have := blkOk_by hb'.1.1
    refine ⟨this.kind, this.uniq, by rw [G.N]; exact this.ix, fun y hy e => ?_, by rw [G.N]; exact this.own⟩
    rw [G.sn]; exact this.free y hy e
  have hs : ∀ x, foldedSetIterable iter X.env x = pure x := fun x => by
    cases iter <;> first | rfl | (simp [notSet] at hns)
  have own2 : (ownOf Γ vs).map (·.2) = vs := by
    unfold ownOf
    rw [List.map_map]
    exact List.map_id vs
  refine toW (pe_lc (own := ownOf Γ vs) (wi := tiW X tgt iter) (g := gB X scope tgt) (tt := tB X scope ifs) (te := eB X scope elt) G.calm (by rw [G.N]; exact G.nd) piW ok pgB ptsB peB hs) ?_
  rw [own2]
  exact lc_T G ihs ihc ihe hb htg (fun i m => by simpa using List.all_eq_true.mp hsl i m) hsrc hcs hl hcn helt l w q
theorem ttOk_call {f : Expr} {xs : List Expr} {ks : List PySem.Keyword} {pos : Pos} : ttOk (.Call f xs ks pos) = true := rfl
end
theorem mv_S {i : Nat} : SE (.mv i) := se_of (fun _ => .inr rfl) (by intro X Z Γ EX G e h L σ ws H F l w; exact mv_ok G h l w)
theorem o1_S {o : O1} {a : E} (ih : SE a) : SE (.o1 o a) := by intro X Z Γ EX G e h L σ ws H F l w; exact o1_E G ih h l w
theorem o2_S {o : O2} {a b : E} (iha : SE a) (ihb : SE b) : SE (.o2 o a b) := by intro X Z Γ EX G e h L σ ws H F l w; exact o2_E G iha ihb h l w
theorem and_S {a b : E} (iha : SE a) (ihb : SE b) : SE (.and a b) := by intro X Z Γ EX G e h L σ ws H F l w; exact and_E G iha ihb h l w
theorem or_S {a b : E} (iha : SE a) (ihb : SE b) : SE (.or a b) := by intro X Z Γ EX G e h L σ ws H F l w; exact or_E G iha ihb h l w
theorem ife_S {c a b : E} (ihc : SE c) (iha : SE a) (ihb : SE b) : SE (.ife c a b) := se_of (fun _ => .inr rfl) (by intro X Z Γ EX G e h L σ ws H F l w; exact ife_E G ihc iha ihb h l w)
theorem tup_S {es : Es} (ih : SEs es) : SE (.tup es) := se_of (by intro Γ e h; left; simp only [chkE] at h; split at h <;> first | rfl | exact absurd h Bool.false_ne_true) (by intro X Z Γ EX G e h L σ ws H F l w; exact tup_E G ih h l w)
theorem lst_S {es : Es} (ih : SEs es) : SE (.lst es) := se_of (by intro Γ e h; left; simp only [chkE] at h; split at h <;> first | rfl | exact absurd h Bool.false_ne_true) (by intro X Z Γ EX G e h L σ ws H F l w; exact lst_E G ih h l w)
theorem call_S {f : Str} {kw : List Str} {es : Es} (ih : SEs es) (ihk : SKs es) : SE (.call f kw es) := se_of (by intro Γ e h; left; simp only [chkE] at h; split at h <;> first | rfl | exact absurd h Bool.false_ne_true) (by intro X Z Γ EX G e h L σ ws H F l w; exact call_E G ih ihk h l w)
theorem sq_S {o : SqO} {a : E} (ih : SE a) : SE (.sq o a) := se_of (by intro Γ e h; left; simp only [chkE] at h; split at h <;> first | (rename_i x hx; exact sqAst_ttOk hx) | exact absurd h Bool.false_ne_true) (by intro X Z Γ EX G e h L σ ws H F l w; exact sq_E G ih h l w)
theorem lc_S {vs : List Nat} {tg : Tg} {s : Src} {cs : Es} {c : E} (ihs : SSrc s) (ihc : SCn cs) (ihe : SE c) : SE (.lc vs tg s cs c) := se_of (by intro Γ e h; left; simp only [chkE] at h; split at h <;> first | rfl | exact absurd h Bool.false_ne_true) (by intro X Z Γ EX G e h L σ ws H F l w; exact lc_E ihs ihc ihe G h l w)
theorem cat_S {a b : E} (iha : SE a) (ihb : SE b) : SE (.cat a b) := se_of (by intro Γ e h; left; simp only [chkE] at h; split at h <;> first | (rename_i x y hx; obtain ⟨pos, rfl⟩ := binAst_out hx; rfl) | exact absurd h Bool.false_ne_true) (by intro X Z Γ EX G e h L σ ws H F l w; exact cat_E G iha ihb h l w)
theorem rep_S {a b : E} (iha : SE a) (ihb : SE b) : SE (.rep a b) := se_of (by intro Γ e h; left; simp only [chkE] at h; split at h <;> first | (rename_i x y hx; obtain ⟨pos, rfl⟩ := binAst_out hx; rfl) | exact absurd h Bool.false_ne_true) (by intro X Z Γ EX G e h L σ ws H F l w; exact rep_E G iha ihb h l w)
/-! ### slices -/
theorem Reps.dropN {K : PySem.W.Frag} : ∀ (n : Nat) {ds : List D} {vs : List V} {W : List Addr}, Reps K H F ds vs W → ∃ W1, Reps K H F (ds.drop n) (vs.drop n) W1 ∧ W1.Sublist W
  | 0, ds, vs, W, r => ⟨W, by simpa using r, List.Sublist.refl _⟩
  | n + 1, [], vs, W, r => by cases r; exact ⟨[], .nil, List.Sublist.refl _⟩
  | n + 1, d :: ds, [], W, r => by cases r
  | n + 1, d :: ds, v :: vs, W, r => by
    obtain ⟨W1, W2, rfl, r1, r2⟩ := Reps.cons_iff.mp r
    obtain ⟨W3, r3, sb⟩ := Reps.dropN n r2
    exact ⟨W3, by simpa using r3, sb.trans (List.sublist_append_right ..)⟩
theorem Reps.takeN {K : PySem.W.Frag} : ∀ (n : Nat) {ds : List D} {vs : List V} {W : List Addr}, Reps K H F ds vs W → ∃ W1, Reps K H F (ds.take n) (vs.take n) W1 ∧ W1.Sublist W
  | 0, ds, vs, W, r => ⟨[], by simpa using Reps.nil, List.nil_sublist _⟩
  | n + 1, [], vs, W, r => by cases r; exact ⟨[], .nil, List.Sublist.refl _⟩
  | n + 1, d :: ds, [], W, r => by cases r
  | n + 1, d :: ds, v :: vs, W, r => by
    obtain ⟨W1, W2, rfl, r1, r2⟩ := Reps.cons_iff.mp r
    obtain ⟨W3, r3, sb⟩ := Reps.takeN n r2
    exact ⟨W1 ++ W3, by simpa using Reps.cons_iff.mpr ⟨W1, W3, rfl, r1, r3⟩, List.Sublist.append (List.Sublist.refl _) sb⟩
theorem Reps.cut {K : PySem.W.Frag} {ds : List D} {us : List V} {W : List Addr} (r : Reps K H F ds us W) (lo hi : Option Int) : ∃ W1, Reps K H F (cutP ds lo hi) (cutV us lo hi) W1 ∧ W1.Sublist W := by
  unfold cutP cutV
  rw [← r.length]
  obtain ⟨W1, r1, s1⟩ := r.dropN (HT.sIx ds.length 0 lo)
  obtain ⟨W2, r2, s2⟩ := r1.takeN (HT.sIx ds.length ds.length hi - HT.sIx ds.length 0 lo)
  exact ⟨W2, r2, s2.trans s1⟩
theorem SqL.ka {K : PySem.W.Frag} {H' : Hp} {a : Addr} {us : List V} (k : KA H H') (s : SqL K H a us) : SqL K H' a us := by
  rcases s with (s | ⟨o, s⟩) | s
  · exact .inl (.inl (k _ _ s))
  · exact .inl (.inr ⟨o, k _ _ s⟩)
  · exact .inr s
theorem SqT.ka {K : PySem.W.Frag} {H' : Hp} {a : Addr} {us : List V} (k : KA H H') (s : SqT K H a us) : SqT K H' a us := by
  rcases s with (s | ⟨o, s⟩) | s
  · exact .inl (.inl (k _ _ s))
  · exact .inl (.inr ⟨o, k _ _ s⟩)
  · exact .inr s
def tO (X : Cx) : Option Expr → TO
  | none => tNoPart
  | some e => tPart (tW X e)
theorem poW {o : Option Expr} : PO X o (tO X o) := by
  cases o with
  | none => exact po_none
  | some e => exact po_some peW
theorem tO_ok (G : Good X Z Γ EX) {c : Es} {o : Option Expr} (h : posOk Γ c o = true) (l : LReps X.K H F L σ ws) {r : Option Int} (e1 : posOf Z.G c L = some r) {Q : Option Int → Hp → Prop} (q : ∀ H', KA H H' → Q r H') : tO X o σ H Q := by
  unfold posOk at h
  split at h
  · simp only [posOf, Option.some.injEq] at e1
    subst e1
    exact q H (KA.refl H)
  · rename_i p e
    simp only [posOf] at e1
    split at e1 <;> simp only [Option.some.injEq, reduceCtorEq] at e1
    rename_i i hp
    subst e1
    refine (soundP G p e h l hp).1 fun u H2 pv => ?_
    obtain ⟨W1, r, m1, m2⟩ := pv.ex
    exact ⟨i, r.intI, q H2 pv.ka⟩
  · exact absurd h Bool.false_ne_true
theorem slice_E {a : E} {lo hi : Es} (ih : SE a) (G : Good X Z Γ EX) (h : chkE Γ (.slice a lo hi) e = true) (l : LReps X.K H F L σ ws) (w : Wf H F ws.flatten) : GoalE X EX e σ H F ws.flatten (den Z (.slice a lo hi) L) := by
  simp only [chkE] at h
  split at h <;> try (exact absurd h Bool.false_ne_true)
  rename_i x le he p2 pos
  simp only [Bool.and_eq_true] at h
  obtain ⟨⟨h1, hlo⟩, hhi⟩ := h
  intro Q q
  rw [den_slice] at q
  refine toW (pe_slice (sl_list.or sl_tup) peW poW poW) (seqW_ok G ih h1 l w q fun d L1 v H1 h1 len ps => ?_)
  obtain ⟨y, ey, h2⟩ := h1.of
  obtain ⟨F1, W1, W2, ws1, r1, sb, op, l1, w1, x1⟩ := ps
  unfold cutO at ey
  split at ey <;> try (cases ey)
  rename_i lo' hi' e1 e2
  refine tO_ok G hlo l1 e1 fun H2 k2 => tO_ok G hhi (k2.lreps l1) e2 fun H3 k3 => ?_
  have kk : KA H1 H3 := k2.trans k3
  cases d <;> simp only [cutRun, reduceCtorEq, Option.some.injEq] at ey
  · rename_i ds
    split at ey <;> simp only [Option.some.injEq, reduceCtorEq] at ey
    rename_i hw
    subst ey
    obtain ⟨p, us, rfl, s, r2⟩ := op ds rfl
    rcases s with ⟨_, s⟩ | ⟨s, _⟩
    · obtain ⟨W3, r3, sb3⟩ := (kk.reps r2).cut lo' hi'
      refine .inr ⟨p, us, rfl, SqT.ka kk s, by rw [← r2.length]; exact hw, fun n hn => ?_⟩
      have sbs : (W3 ++ ws1.flatten).Sublist (W2 ++ ws1.flatten) := List.Sublist.append sb3 (List.Sublist.refl _)
      obtain ⟨a1, a2, a3, a4⟩ := new_tup r3 (kk.lreps l1) ((kk.wf w1).sub sbs) hn
      exact h2 _ _ ⟨F1, W3, ws1, a1, a2, a3, ((x1.trans kk.ext).sub fun a m => sbs.subset m).trans a4⟩
    · exact absurd rfl (s _)
  · rename_i o ds
    subst ey
    obtain ⟨p, us, rfl, s, r2⟩ := op ds rfl
    rcases s with ⟨⟨ts, z⟩, s⟩ | ⟨_, s⟩
    · cases z
    · obtain ⟨W3, r3, sb3⟩ := (kk.reps r2).cut lo' hi'
      refine .inl ⟨p, us, rfl, SqL.ka kk s, fun n hn => ?_⟩
      have sbs : (W3 ++ ws1.flatten).Sublist (W2 ++ ws1.flatten) := List.Sublist.append sb3 (List.Sublist.refl _)
      obtain ⟨a1, a2, a3, a4⟩ := new_lst r3 (kk.lreps l1) ((kk.wf w1).sub sbs) hn
      exact h2 _ _ ⟨F1, n :: W3, ws1, a1, a2, a3, ((x1.trans kk.ext).sub fun a m => sbs.subset m).trans a4⟩
  · rename_i ds
    subst ey
    obtain ⟨p, us, rfl, s, r2⟩ := op ds rfl
    rcases s with ⟨⟨ts, z⟩, s⟩ | ⟨_, s⟩
    · cases z
    · obtain ⟨W3, r3, sb3⟩ := (kk.reps r2).cut lo' hi'
      refine .inl ⟨p, us, rfl, SqL.ka kk s, fun n hn => ?_⟩
      have sbs : (W3 ++ ws1.flatten).Sublist (W2 ++ ws1.flatten) := List.Sublist.append sb3 (List.Sublist.refl _)
      obtain ⟨a1, a2, a3, a4⟩ := new_lst r3 (kk.lreps l1) ((kk.wf w1).sub sbs) hn
      exact h2 _ _ ⟨F1, n :: W3, ws1, a1, a2, a3, ((x1.trans kk.ext).sub fun a m => sbs.subset m).trans a4⟩

/-! ### pop -/
theorem PathW.inj {v x y : V} {is : List Int} (h : PathW H v is x) (h2 : PathW H v is y) : x = y := by
  induction h with
  | nil => cases h2; rfl
  | cons a1 a2 a3 _ ih =>
    cases h2 with
    | cons b1 b2 b3 b4 =>
      rw [a1] at b1; cases b1
      rw [a2] at b2; cases b2
      rw [a3] at b3; cases b3
      exact ih b4
theorem popRun_out {G : Str → Option D} {i : Nat} {path : List P} {j : Int} {r : D × Lcs} (h : popRun G i path j L = some r) :
    ∃ d is ds k x d', L[i]? = some (some d) ∧ pathInts G L path = some is ∧ atPath d is = some (.lst true ds) ∧ ixN ds.length j = some k ∧ ds[k]? = some x ∧ updPath (fun ds => some (ds.eraseIdx k)) d is = some d' ∧ r = (x, L.set i (some d')) := by
  unfold popRun at h
  split at h <;> try (cases h)
  rename_i d is e1 e2
  split at h <;> try (cases h)
  rename_i ds e3
  split at h <;> try (cases h)
  rename_i k e4
  split at h <;> try (cases h)
  rename_i x d' e5 e6
  exact ⟨d, is, ds, k, x, d', e1, e2, e3, e4, e5, e6, rfl⟩
/-- the thing is out -/
theorem pop_post {K : PySem.W.Frag} {i : Nat} {d d' x : D} {is : List Int} {ds : List D} {k : Nat} (l : LReps K H F L σ ws) (w : Wf H F ws.flatten) (e1 : L[i]? = some (some d)) (e3 : atPath d is = some (.lst true ds)) (e5 : ds[k]? = some x) (e6 : updPath (fun ds => some (ds.eraseIdx k)) d is = some d') :
    ∃ v a us u, σ[i]? = some (some v) ∧ PathW H v is (.ref a) ∧ H a = some (.lst us) ∧ us.length = ds.length ∧ us[k]? = some u ∧ PostVs K H F ws.flatten σ [x] (L.set i (some d')) [u] (upd H a (.lst (us.eraseIdx k))) := by
  obtain ⟨v, a, us, Wi, W', p1, p2, p3, p4, p5, p6, p7, p8, p9⟩ := slot_upd (W0 := []) l e1 (by simpa using w) e3
  obtain ⟨u, Wa, Wd, Wb, h1, rfl, ra, rd, rb⟩ := p4.split3 e5
  have r2 : Reps K H F (ds.eraseIdx k) (us.eraseIdx k) (Wa ++ Wb) := by
    rw [List.eraseIdx_eq_take_drop_succ, List.eraseIdx_eq_take_drop_succ]
    exact ra.append rb
  have n1 : a ∉ Wa ++ Wb := fun z => p8 (by
    rcases List.mem_append.mp z with z | z
    · exact List.mem_append_left _ z
    · exact List.mem_append_right _ (List.mem_append_right _ z))
  have n2 : a ∉ Wd := fun z => p8 (List.mem_append_right _ (List.mem_append_left _ z))
  obtain ⟨ws', q1, q2, q3⟩ := p9 (fun ds => some (ds.eraseIdx k)) (us.eraseIdx k) _ d' (Wa ++ Wb) Wd [] rfl e6 (frame1 p3 r2 n1 p6) (by
    refine List.perm_iff_count.mpr fun c => ?_
    simp only [List.count_append, List.count_nil]
    omega)
  exact ⟨v, a, us, u, p1, p2, p3, p4.length.symm, h1, F, Wd, ws', frame1 p3 rd n2 p6, q1, q2, by simpa using q3⟩
theorem attrBase {X : Cx} {i : Nat} {ps : List P} {o : Expr} {nm : Str} (h : chkPath Γ i ps o = true) : attributeBase o nm X.env (eval o X.env) = eval o X.env := by
  cases ps with
  | nil => unfold chkPath at h; split at h <;> first | rfl | exact absurd h Bool.false_ne_true
  | cons p ps => unfold chkPath at h; split at h <;> first | rfl | exact absurd h Bool.false_ne_true
theorem few1 {X : Cx} {y : Expr} {cpos : Pos} (ns : notStar y = true) : ((backTo cpos (starEach [y] X.env)).all (fun x => !x.1) && (backToKw cpos (keywordEach [] X.env)).all (fun x => x.1.isSome) && decide ([y].length + ([] : List PySem.Keyword).length + (if ([] : List PySem.Keyword).isEmpty then 0 else 1) < 30)) = true := by
  rw [starEach_of ns]; rfl
theorem pop0_E {i : Nat} {path : List P} (G : Good X Z Γ EX) (h : chkE Γ (.popi i path .nil) e = true) (l : LReps X.K H F L σ ws) (w : Wf H F ws.flatten) : GoalE X EX e σ H F ws.flatten (den Z (.popi i path .nil) L) := by
  simp only [chkE] at h
  split at h <;> try (exact absurd h Bool.false_ne_true)
  rename_i o nm apos xs cpos
  simp only [Bool.and_eq_true, decide_eq_true_eq] at h
  obtain ⟨⟨⟨⟨⟨rfl, hline⟩, hp⟩, _⟩, _⟩, hes⟩ := h
  cases xs with
  | cons _ _ => simp [chkEs] at hes
  | nil =>
    intro Q q
    rw [den_pop0] at q
    cases hr : popRun Z.G i path (-1) L with
    | none => rw [hr] at q; exact q.elim
    | some r =>
      rw [hr] at q
      obtain ⟨d, is, ds, k, x, d', e1, e2, e3, e4, e5, e6, rfl⟩ := popRun_out hr
      obtain ⟨v, a, us, u, s1, pw, s3, hl, hu, post⟩ := pop_post l w e1 e3 e5 e6
      have hk : k = us.length - 1 := by
        have := ixN_seq e4
        obtain ⟨t1, t2, t3, t4⟩ := this
        unfold ixN at e4
        rw [if_neg (by omega), if_pos (by omega)] at e4
        simp only [Option.some.injEq] at e4
        omega
      refine toW (pe_bm0 PySem.F.plainAttrs_list PySem.F.slot_list_pop PySem.F.type_list_pop mt_pop peW (attrBase hp) hline) ?_
      refine path_E G hp l s1 (by rw [List.reverse_reverse]; exact e2) pw fun H1 k1 => ⟨.inl ⟨rfl, us, .inl (.inl (k1 _ _ s3))⟩, ?_⟩
      obtain ⟨v2, a2, us2, u2, s1', pw', s3', hl', hu', post'⟩ := pop_post (k1.lreps l) (k1.wf w) e1 e3 e5 e6
      rw [s1] at s1'; cases s1'
      have ea := (pw.ka k1).inj pw'
      cases ea
      rw [k1 _ _ s3] at s3'; cases s3'
      refine ⟨a, us, u, rfl, rfl, k1 _ _ s3, by rw [← hk]; exact hu, ?_⟩
      have ed : us.dropLast = us.eraseIdx k := by rw [hk, PyProof.Rows.Copied.eraseIdx_last]
      rw [ed]
      have : u = u2 := by rw [hu] at hu'; exact Option.some.inj hu'
      subst this
      exact q _ _ (post'.comp k1.ext)
theorem popAt_go {i : Nat} {path : List P} {o y : Expr} {apos cpos : Pos} (G : Good X Z Γ EX) (hline : (apos.endLine == cpos.line) = true) (hp : chkPath Γ i path.reverse o = true) (ns : notStar y = true) {Q : VK} {is : List Int} {v : V} {a : Addr} {us : List V}
    (l : LReps X.K H F L σ ws) (s1 : σ[i]? = some (some v)) (e2 : pathInts Z.G L path = some is) (pw : PathW H v is (.ref a)) (s3 : H a = some (.lst us))
    (q : ∀ H1, KA H H1 → tW X y σ H1 fun x H2 => rPopAt (.ref a) [x] H2 Q) : tW X (.Call (.Attribute o (Str.ofString "pop") apos) [y] [] cpos) σ H Q := by
  refine toW (pe_bm PySem.F.plainAttrs_list PySem.F.slot_list_pop PySem.F.type_list_pop mt_popAt peW (pa_cons peW pa_nil (starEach_of ns)) (attrBase hp) (few1 ns) hline (starEach_of ns) rfl) ?_
  refine path_E G hp l s1 (by rw [List.reverse_reverse]; exact e2) pw fun H1 k1 => ⟨.inl ⟨rfl, us, .inl (.inl (k1 _ _ s3))⟩, ?_⟩
  exact q H1 k1
theorem ixN_range {n : Nat} {j : Int} {k : Nat} (h : ixN n j = some k) (hn : n ≤ sizeLine) : -(2 ^ 63) ≤ j ∧ j < 2 ^ 63 := by
  have t := ixN_seq h
  rw [sizeLine_eq] at hn
  omega
theorem pop1_E {i : Nat} {path : List P} {c : E} (ih : SE c) (G : Good X Z Γ EX) (h : chkE Γ (.popi i path (.cons c .nil)) e = true) (l : LReps X.K H F L σ ws) (w : Wf H F ws.flatten) : GoalE X EX e σ H F ws.flatten (den Z (.popi i path (.cons c .nil)) L) := by
  simp only [chkE] at h
  split at h <;> try (exact absurd h Bool.false_ne_true)
  rename_i o nm apos xs cpos
  simp only [Bool.and_eq_true, decide_eq_true_eq] at h
  obtain ⟨⟨⟨⟨⟨rfl, hline⟩, hp⟩, hpl⟩, hln⟩, hes⟩ := h
  cases xs with
  | nil => simp [chkEs] at hes
  | cons y ys =>
    have hy : ys = [] := by cases ys with
      | nil => rfl
      | cons _ _ => simp at hln
    subst hy
    have ns : notStar y = true := by simpa [plainOf] using hpl
    simp only [chkEs, Bool.and_eq_true] at hes
    intro Q q
    cases path with
    | nil =>
      rw [den_pop1] at q
      obtain ⟨_, el, q⟩ := q.ofB
      unfold lstAt at el
      split at el <;> try (cases el)
      rename_i ds0 hd0
      obtain ⟨v, s1, r0, _⟩ := l.get hd0
      obtain ⟨a, us0, W0, rfl, s3, _⟩ := r0.lstI
      refine popAt_go G hline hp ns l s1 rfl .nil s3 fun H1 k1 => ?_
      have gc := (ih G hes.1 (k1.lreps l) (k1.wf w)).1
      have q' := q.step (k1.ext (F := F) (W := ws.flatten)) (W2 := ws.flatten) fun _ m => m
      refine (tW.len (gc.use (R := fun x H2 => ∃ d0 L1, After X.K X.mg EX H1 F ws.flatten ((Res.of (intOf d0)).bind fun j => Res.of (popRun Z.G i [] j L1)) (fun d L' => ∀ v H', PostVs X.K H F ws.flatten σ [d] L' [v] H' → Q v H') ∧ PostVs X.K H1 F ws.flatten σ [d0] L1 [x] H2) q' fun d0 L1 x H2 h1 pv => ⟨d0, L1, h1, pv⟩)).mono fun x H2 ⟨⟨d0, L1, h1, pv⟩, lo⟩ => ?_
      obtain ⟨F1, W1, ws1, r1, l1, w1, x1⟩ := pv
      obtain ⟨j, ej, h2⟩ := h1.ofB
      have hd1 : d0 = .int j := by
        cases d0 <;> simp only [intOf, reduceCtorEq, Option.some.injEq] at ej
        rw [ej]
      subst hd1
      cases hr : popRun Z.G i [] j L1 with
      | none => rw [hr] at h2; exact h2.elim
      | some r =>
        rw [hr] at h2
        obtain ⟨d, is, ds, k, y', d', e1, e2, e3, e4, e5, e6, rfl⟩ := popRun_out hr
        obtain ⟨v2, a2, us2, u2, s1', pw', s3', hl', hu', post'⟩ := pop_post l1 w1.right e1 e3 e5 e6
        rw [s1] at s1'; cases s1'
        simp only [pathInts, Option.some.injEq] at e2
        subst e2
        cases pw'
        have hz := lo a us2 (.inl (.inl s3'))
        have hr2 := ixN_range e4 (by rw [← hl']; exact hz)
        exact ⟨a, us2, j, k, u2, rfl, by rw [r1.intI], s3', hr2.1, hr2.2, by rw [hl']; exact (ixN_seq e4).1, hu', h2 _ _ (post'.comp ((k1.ext.trans x1).sub fun c m => List.mem_append_right _ m))⟩
    | cons p ps =>
      rw [den_pop2] at q
      obtain ⟨d0, ed, q⟩ := q.ofB
      obtain ⟨j, ej, q⟩ := q.ofB
      cases hr : popRun Z.G i (p :: ps) j L with
      | none => rw [hr] at q; exact q.elim
      | some r =>
        rw [hr] at q
        obtain ⟨d, is, ds, k, x, d', e1, e2, e3, e4, e5, e6, rfl⟩ := popRun_out hr
        have q' : ∀ v H', PostVs X.K H F ws.flatten σ [x] (L.set i (some d')) [v] H' → Q v H' := q
        obtain ⟨v, a, us, u, s1, pw, s3, hl, hu, post⟩ := pop_post l w e1 e3 e5 e6
        refine popAt_go G hline hp ns l s1 e2 pw s3 fun H1 k1 => ?_
        cases c with
        | p p0 =>
          simp only [purE] at ed
          refine (tW.len ((soundP G p0 y (by simpa [chkE] using hes.1) (k1.lreps l) ed).1 (Q := fun v H' => PV X.K H1 F ws p0 d0 v H') fun _ _ pv => pv)).mono fun u0 H2 ⟨pv, lo⟩ => ?_
          obtain ⟨W1, r, m1, m2⟩ := pv.ex
          have hd0 : d0 = .int j := by
            cases d0 <;> simp only [intOf, reduceCtorEq, Option.some.injEq] at ej
            rw [ej]
          subst hd0
          have kk : KA H H2 := k1.trans pv.ka
          obtain ⟨v2, a2, us2, u2, s1', pw', s3', hl', hu', post'⟩ := pop_post (kk.lreps l) (kk.wf w) e1 e3 e5 e6
          rw [s1] at s1'; cases s1'
          have ea := (pw.ka kk).inj pw'
          cases ea
          rw [kk _ _ s3] at s3'; cases s3'
          have hz := lo a us (.inl (.inl (kk _ _ s3)))
          have hr2 := ixN_range e4 (by rw [← hl]; exact hz)
          refine ⟨a, us, _, k, u2, rfl, by rw [r.intI], kk _ _ s3, hr2.1, hr2.2, by rw [hl]; exact (ixN_seq e4).1, hu', q' _ _ (post'.comp kk.ext)⟩
        | _ => simp [purE] at ed
theorem pop0_S {i : Nat} {path : List P} : SE (.popi i path .nil) := se_of (fun _ => .inr rfl) (by intro X Z Γ EX G e h L σ ws H F l w; exact pop0_E G h l w)
theorem pop1_S {i : Nat} {path : List P} {c : E} (ih : SE c) : SE (.popi i path (.cons c .nil)) := se_of (fun _ => .inr rfl) (by intro X Z Γ EX G e h L σ ws H F l w; exact pop1_E ih G h l w)
theorem pop2_S {i : Nat} {path : List P} {c c2 : E} {cs : Es} : SE (.popi i path (.cons c (.cons c2 cs))) := by
  intro X Z Γ EX G e h
  simp only [chkE] at h
  split at h <;> try (exact absurd h Bool.false_ne_true)
  simp only [Bool.and_eq_true, decide_eq_true_eq] at h
  have := chkEs_len h.2
  simp only [Es.len] at this
  omega
theorem slice_S {a : E} {lo hi : Es} (ih : SE a) : SE (.slice a lo hi) := se_of (by intro Γ e h; left; simp only [chkE] at h; split at h <;> first | rfl | exact absurd h Bool.false_ne_true) (by intro X Z Γ EX G e h L σ ws H F l w; exact slice_E ih G h l w)
theorem nev_S  : SE (.nev) := se_of (fun _ => .inr rfl) (by intro X Z Γ EX G e h L σ ws H F l w Q q; rw [den_nev] at q; exact q.elim)
mutual
theorem soundE : ∀ c : E, SE c
  | .p p => p_E
  | .mv i => mv_S
  | .o1 o a => o1_S (soundE a)
  | .o2 o a b => o2_S (soundE a) (soundE b)
  | .and a b => and_S (soundE a) (soundE b)
  | .or a b => or_S (soundE a) (soundE b)
  | .ife c a b => ife_S (soundE c) (soundE a) (soundE b)
  | .tup es => tup_S (soundEs es)
  | .lst es => lst_S (soundEs es)
  | .call f kw es => call_S (soundEs es) (soundKs es)
  | .sq o a => sq_S (soundE a)
  | .lc vs tg s cs c => lc_S (soundSrc s) (soundCn cs) (soundE c)
  | .cat a b => cat_S (soundE a) (soundE b)
  | .rep a b => rep_S (soundE a) (soundE b)
  | .slice a lo hi => slice_S (soundE a)
  | .popi i path .nil => pop0_S
  | .popi i path (.cons e .nil) => pop1_S (soundE e)
  | .popi i path (.cons e (.cons e2 es)) => pop2_S
  | .nev => nev_S
theorem soundEs : ∀ c : Es, SEs c
  | .nil => es_nil
  | .cons e es => es_cons (soundE e) (soundEs es)
theorem soundKs : ∀ c : Es, SKs c
  | .nil => ks_nil
  | .cons e es => ks_cons (soundE e) (soundKs es)
theorem soundSrc : ∀ c : Src, SSrc c
  | .e e => src_E (soundE e)
  | .rng es => src_R (soundEs es)
  | .zip a b => src_Z (soundE a) (soundE b)
  | .enum e => src_N (soundE e)
theorem soundCn : ∀ c : Es, SCn c
  | .nil => cn_nil
  | .cons e es => cn_cons (soundE e)
end
end Q

namespace Q
open PySem L2 PySem.Spec

/-! ## statements -/
mutual
inductive S where
  | asg (tg : Tg) (e : E)
  | par (is : List Nat) (es : Es)
  | setx (i : Nat) (path : List P) (k : P) (e : E)
  | ex (e : E)
  | app (i : Nat) (path : List P) (e : E)
  | ext (i : Nat) (e : E)
  | ifs (c : E) (a b : Ss)
  | for_ (tg : Tg) (s : Src) (b : Ss)
  | whl (c : E) (b : Ss)
  | ret (e : E) | retn | brk | cont | pass | nev
inductive Ss where
  | nil | cons (s : S) (ss : Ss)
end
inductive RS where
  | nx (L : Lcs) | rt (d : D) (L : Lcs) | bk (L : Lcs) | ct (L : Lcs) | exn (c : Str) (d : D) | bad
def Res.seq {α : Type} (r : Res α) (f : α → RS) : RS := match r with | .ok a => f a | .exn c d => .exn c d | .bad => .bad
def RS.seq (r : RS) (f : Lcs → RS) : RS := match r with | .nx L => f L | r => r
def RS.of : Option Lcs → RS
  | some L => .nx L
  | none => .bad
/-- a for's turns -/
def forRun (tg : Tg) (body : Lcs → RS) : List D → Lcs → RS
  | [], L => .nx L
  | x :: xs, L => match tg.set x L with
    | none => .bad
    | some L1 => match body L1 with
      | .nx L2 => forRun tg body xs L2
      | .ct L2 => forRun tg body xs L2
      | .bk L2 => .nx L2
      | r => r
def whlRun (cond : Lcs → Res (Bool × Lcs)) (body : Lcs → RS) : Nat → Lcs → RS
  | 0, _ => .bad
  | n + 1, L => (cond L).seq fun r => if r.1 then (match body r.2 with
      | .nx L2 => whlRun cond body n L2
      | .ct L2 => whlRun cond body n L2
      | .bk L2 => .nx L2
      | r => r) else .nx r.2
def setAllO (is : List Nat) (ds : List D) (L : Lcs) : Option Lcs := if is.length = ds.length then some ((is.zip ds).foldl (fun L p => L.set p.1 (some p.2)) L) else none
/-- slot[path][k] = d -/
def setxRun (G : Str → Option D) (i : Nat) (path : List P) (k : P) (x : D) (L : Lcs) : Option Lcs :=
  match L[i]?, pathInts G L path, pur G k L with
  | some (some d), some is, some (.int j) => (match updPath (fun ds => match ixN ds.length j with | some n => some (ds.set n x) | none => none) d is with
    | some d' => some (L.set i (some d'))
    | none => none)
  | _, _, _ => none
def appF (x : D) (ds : List D) : Option (List D) := if ds.length < 1000000 then some (ds ++ [x]) else none
def appRun (G : Str → Option D) (i : Nat) (path : List P) (x : D) (L : Lcs) : Option Lcs :=
  match L[i]?, pathInts G L path with
  | some (some d), some is => (match updPath (appF x) d is with
    | some d' => some (L.set i (some d'))
    | none => none)
  | _, _ => none
def extRun (i : Nat) (x : D) (L : Lcs) : Option Lcs :=
  match L[i]?, x with
  | some (some (.lst true ds)), .lst _ es => if ds.length + es.length ≤ 1000000 then some (L.set i (some (.lst true (ds ++ es)))) else none
  | _, _ => none
def noOwnOf (o : Option D) : Option D := match o with | some d => if d.noOwn then some d else none | none => none

mutual
def runS (V : EnvQ) : S → Lcs → RS
  | .asg tg e, L => (den V e L).seq fun r => RS.of (tg.set r.1 r.2)
  | .par is es, L => (dens V es L).seq fun r => RS.of (setAllO is r.1 r.2)
  | .setx i path k e, L => (den V e L).seq fun r => RS.of (setxRun V.G i path k r.1 r.2)
  | .ex e, L => (den V e L).seq fun r => .nx r.2
  | .app i path e, L => match path with
    | [] => (Res.of (lstAt L i)).seq fun _ => (den V e L).seq fun r => RS.of (appRun V.G i [] r.1 r.2)
    | p :: ps => (Res.of (noOwnOf (purE V.G e L))).seq fun d => RS.of (appRun V.G i (p :: ps) d L)
  | .ext i e, L => (Res.of (lstAt L i)).seq fun _ => (den V e L).seq fun r => RS.of (extRun i r.1 r.2)
  | .ifs c a b, L => (rdW V c (fun L => den V c L) L).seq fun r => (Res.of (tru r.1)).seq fun k => if k then runSs V a r.2 else runSs V b r.2
  | .for_ tg s b, L => (src V s L).seq fun r => forRun tg (fun L => runSs V b L) r.1 r.2
  | .whl c b, L => whlRun (fun L => (rdW V c (fun L => den V c L) L).bind fun r => (Res.of (tru r.1)).bind fun b => .ok (b, r.2)) (fun L => runSs V b L) V.N L
  | .ret e, L => (den V e L).seq fun r => .rt r.1 r.2
  | .retn, L => .rt .non L
  | .brk, L => .bk L
  | .cont, L => .ct L
  | .pass, L => .nx L
  | .nev, _ => .bad
def runSs (V : EnvQ) : Ss → Lcs → RS
  | .nil, L => .nx L
  | .cons s ss, L => (runS V s L).seq fun L1 => runSs V ss L1
end
section
variable (V : EnvQ) (L : Lcs)
theorem run_asg (tg : Tg) (e : E) : runS V (.asg tg e) L = (den V e L).seq fun r => RS.of (tg.set r.1 r.2) := by rw [runS]
theorem run_par (is : List Nat) (es : Es) : runS V (.par is es) L = (dens V es L).seq fun r => RS.of (setAllO is r.1 r.2) := by rw [runS]
theorem run_setx (i : Nat) (path : List P) (k : P) (e : E) : runS V (.setx i path k e) L = (den V e L).seq fun r => RS.of (setxRun V.G i path k r.1 r.2) := by rw [runS]
theorem run_ex (e : E) : runS V (.ex e) L = (den V e L).seq fun r => .nx r.2 := by rw [runS]
theorem run_app0 (i : Nat) (e : E) : runS V (.app i [] e) L = (Res.of (lstAt L i)).seq fun _ => (den V e L).seq fun r => RS.of (appRun V.G i [] r.1 r.2) := by rw [runS]
theorem run_app1 (i : Nat) (p : P) (ps : List P) (e : E) : runS V (.app i (p :: ps) e) L = (Res.of (noOwnOf (purE V.G e L))).seq fun d => RS.of (appRun V.G i (p :: ps) d L) := by rw [runS]
theorem run_ext (i : Nat) (e : E) : runS V (.ext i e) L = (Res.of (lstAt L i)).seq fun _ => (den V e L).seq fun r => RS.of (extRun i r.1 r.2) := by rw [runS]
theorem run_ifs (c : E) (a b : Ss) : runS V (.ifs c a b) L = (rdW V c (fun L => den V c L) L).seq fun r => (Res.of (tru r.1)).seq fun k => if k then runSs V a r.2 else runSs V b r.2 := by rw [runS]
theorem run_for (tg : Tg) (s : Src) (b : Ss) : runS V (.for_ tg s b) L = (src V s L).seq fun r => forRun tg (fun L => runSs V b L) r.1 r.2 := by rw [runS]
theorem run_whl (c : E) (b : Ss) : runS V (.whl c b) L = whlRun (fun L => tst V c L) (fun L => runSs V b L) V.N L := by rw [runS]; rfl
theorem run_ret (e : E) : runS V (.ret e) L = (den V e L).seq fun r => .rt r.1 r.2 := by rw [runS]
theorem run_retn : runS V .retn L = .rt .non L := by rw [runS]
theorem run_brk : runS V .brk L = .bk L := by rw [runS]
theorem run_cont : runS V .cont L = .ct L := by rw [runS]
theorem run_pass : runS V .pass L = .nx L := by rw [runS]
theorem run_nev : runS V .nev L = .bad := by rw [runS]
theorem runs_nil : runSs V .nil L = .nx L := by rw [runSs]
theorem runs_cons (s : S) (ss : Ss) : runSs V (.cons s ss) L = (runS V s L).seq fun L1 => runSs V ss L1 := by rw [runSs]
end

/-! ## statements in the text -/
def notLC : Expr → Bool
  | .ListComp .. => false
  | .SetComp .. => false
  | .DictComp .. => false
  | _ => true
theorem noSwap {e : Expr} {t : Option Expr} {l : Nat} {env : PySem.Env} (h : notLC e = true) : swapsWith e t l env = pure false := by
  cases e <;> first | rfl | (simp [notLC] at h)
def notTup : Expr → Bool
  | .Tuple .. => false
  | _ => true
def isNames : List Expr → Bool
  | [] => true
  | .Name .. :: es => isNames es
  | _ => false
/-- stores that swap: two or three plain local names on a line, a tuple of as many -/
def locs (Γ : Gam) (line : Nat) : List Expr → Option (List Str)
  | [] => some []
  | .Name x p :: es => if Γ.sn.lookup x = some .local ∧ (p.line == line) = true then (match locs Γ line es with | some r => some (x :: r) | none => none) else none
  | _ => none
/-- an in-line comprehension stored by its own name -/
def swLc (Γ : Gam) (t : Expr) (e : Expr) : Bool := match t, e with
  | .Name x p, .ListComp _ _ scope pos => decide (Γ.sn.lookup x = some .local) && (p.line == pos.line) && !(scope.names.any fun (n, k) => n == x && (k == .local || k == .cell))
  | _, _ => false
def noLc (Γ : Gam) (t : Expr) (e : Expr) : Bool := match t, e with
  | .Name x p, .ListComp _ _ scope pos => !decide (Γ.sn.lookup x = some .local) || !(p.line == pos.line) || (scope.names.any fun (n, k) => n == x && (k == .local || k == .cell))
  | _, e => notLC e
/-- a tuple stored into a tuple of names goes through a new tuple -/
def noPar (Γ : Gam) (t : Expr) (e : Expr) : Bool := match t, e with
  | .Tuple ts _ _, .Tuple vs _ _ => !(ts.length == 2 || ts.length == 3) || vs.length != ts.length || (locs Γ ((ts.head?.map (·.pos.line)).getD 0) ts).isNone || vs.all (foldedForSure 8)
  | .List .., .Tuple .. => false
  | _, _ => true
def isLc : E → Bool
  | .lc .. => true
  | _ => false
mutual
def chkS (Γ : Gam) (M : List Nat) : S → Stmt → Bool
  | .asg tg e, st => match st with
    | .Assign [t] v pos => chkTg Γ tg t && (tg.slots.all fun i => !decide (i ∈ M)) && chkE Γ e v && noPar Γ t v && (noLc Γ t v || (swLc Γ t v && isLc e))
    | _ => false
  | .par is es, st => match st with
    | .Assign [.Tuple ts _ _] (.Tuple vs _ _) pos => nmsOk Γ is ts && plainOf vs && chkEs Γ es vs && (is.all fun i => !decide (i ∈ M)) && decide is.Nodup && (match locs Γ ((ts.head?.map (·.pos.line)).getD 0) ts with | some xs => decide (xs.eraseDups.length = xs.length) | none => false) &&
        decide (vs.length = ts.length) && (ts.length == 2 || ts.length == 3) && !(vs.all (foldedForSure 8)) && !(vs.all (constantsAlone 8))
    | _ => false
  | .setx i path k e, st => match st with
    | .Assign [.Subscript o y _] v pos => chkPath Γ i path.reverse o && chkP Γ k y && notSlice y && chkE Γ e v && notLC v && notTup v
    | _ => false
  | .ex e, st => match st with
    | .Expr v _ => chkE Γ e v && notLC v
    | _ => false
  | .app i path e, st => match st with
    | .Expr (.Call (.Attribute o nm apos) xs [] cpos) _ => (match xs with | [y] => decide (nm = Str.ofString "append") && (apos.endLine == cpos.line) && chkPath Γ i path.reverse o && notStar y && chkE Γ e y | _ => false)
    | _ => false
  | .ext i e, st => match st with
    | .Expr (.Call (.Attribute o nm apos) xs [] cpos) _ => (match xs with | [y] => decide (nm = Str.ofString "extend") && (apos.endLine == cpos.line) && chkPath Γ i [] o && notStar y && chkE Γ e y | _ => false)
    | _ => false
  | .ifs c a b, st => match st with
    | .If t xs ys _ => chkE Γ c t && tstOk c && chkSs Γ M a xs && chkSs Γ M b ys
    | _ => false
  | .for_ tg s b, st => match st with
    | .For t it xs ys _ => chkTg Γ tg t && (tg.slots.all fun i => !decide (i ∈ M)) && chkSrc Γ t s it && notSet it && chkSs Γ M b xs && ys.isEmpty
    | _ => false
  | .whl c b, st => match st with
    | .While t xs ys _ => chkE Γ c t && tstOk c && chkSs Γ M b xs && ys.isEmpty
    | _ => false
  | .ret e, st => match st with
    | .Return (some v) _ => chkE Γ e v
    | _ => false
  | .retn, st => match st with
    | .Return none _ => true
    | _ => false
  | .brk, st => match st with | .Break _ => true | _ => false
  | .cont, st => match st with | .Continue _ => true | _ => false
  | .pass, st => match st with
    | .Pass _ => true
    | .Expr (.Constant (.str _) _ _) _ => true
    | _ => false
  | .nev, _ => true
def chkSs (Γ : Gam) (M : List Nat) : Ss → List Stmt → Bool
  | .nil, [] => true
  | .cons s ss, x :: xs => chkS Γ M s x && chkSs Γ M ss xs
  | _, _ => false
end
end Q

namespace Q
open PySem L2 PySem.Spec

def tsW (X : Cx) (st : Stmt) : TS := fun D σ H => ∀ pins s, Inv X pins σ H s → wpAny (model X.prog X.w) X.A (exec st X.env) (SP X pins D) X.xe s
def tssW (X : Cx) (st : List Stmt) : TS := fun D σ H => ∀ pins s, Inv X pins σ H s → wpAny (model X.prog X.w) X.A (execs st X.env) (SP X pins D) X.xe s
theorem psW {X : Cx} {st : Stmt} : PS X st (tsW X st) := ⟨fun pins s σ H D I h => h pins s I⟩
theorem pssW {X : Cx} {st : List Stmt} : PSs X st (tssW X st) := ⟨fun pins s σ H D I h => h pins s I⟩
theorem toS {X : Cx} {st : Stmt} {t : TS} (h : PS X st t) {D : Ends} {σ : L2.St} {H : Hp} (q : t D σ H) : tsW X st D σ H := fun pins s I => h.run pins s σ H D I q
theorem toSs {X : Cx} {st : List Stmt} {t : TS} (h : PSs X st t) {D : Ends} {σ : L2.St} {H : Hp} (q : t D σ H) : tssW X st D σ H := fun pins s I => h.run pins s σ H D I q

def PostN (K : PySem.W.Frag) (H : Hp) (F : Addr → Prop) (W : List Addr) (M : List Nat) (σ : L2.St) (L' : Lcs) (σ' : L2.St) (H' : Hp) : Prop :=
  ∃ (F' : Addr → Prop) (ws' : List (List Addr)), LReps K H' F' L' σ' ws' ∧ Wf H' F' ws'.flatten ∧ Ext H F W H' F' ws'.flatten ∧ ∀ i ∈ M, σ'[i]? = σ[i]?
def PostRt (K : PySem.W.Frag) (H : Hp) (F : Addr → Prop) (W : List Addr) (M : List Nat) (σ : L2.St) (d : D) (L' : Lcs) (v : V) (σ' : L2.St) (H' : Hp) : Prop :=
  ∃ (F' : Addr → Prop) (W1 : List Addr) (ws' : List (List Addr)), Reps K H' F' [d] [v] W1 ∧ LReps K H' F' L' σ' ws' ∧ Wf H' F' (W1 ++ ws'.flatten) ∧ Ext H F W H' F' (W1 ++ ws'.flatten) ∧ ∀ i ∈ M, σ'[i]? = σ[i]?
def AfterS (K : PySem.W.Frag) (mg : Str → Option Value) (EX : XK) (H : Hp) (F : Addr → Prop) (W : List Addr) (M : List Nat) (σ : L2.St) (r : RS) (E : Ends) : Prop :=
  match r with
  | .nx L' => ∀ σ' H', PostN K H F W M σ L' σ' H' → E.nx σ' H'
  | .bk L' => ∀ σ' H', PostN K H F W M σ L' σ' H' → E.bk σ' H'
  | .ct L' => ∀ σ' H', PostN K H F W M σ L' σ' H' → E.ct σ' H'
  | .rt d L' => ∀ v σ' H', PostRt K H F W M σ d L' v σ' H' → E.rt v H'
  | .exn c x => ∀ cls dd H' F', ExOk K mg H' F' c x cls dd → Ext H F W H' F' [] → EX cls dd H'
  | .bad => False
section
variable {K : PySem.W.Frag} {mg : Str → Option Value} {EX : XK} {H H1 : Hp} {F F1 : Addr → Prop} {W W1 W2 : List Addr} {M : List Nat} {σ σ1 : L2.St} {r : RS} {E : Ends}
theorem PostN.comp {L' : Lcs} {σ' : L2.St} {H' : Hp} (x : Ext H F W H1 F1 W1) (s : ∀ a ∈ W2, a ∈ W1) (m : ∀ i ∈ M, σ1[i]? = σ[i]?) (p : PostN K H1 F1 W2 M σ1 L' σ' H') : PostN K H F W M σ L' σ' H' := by
  obtain ⟨F', ws', l, w, y, n⟩ := p
  exact ⟨F', ws', l, w, x.trans (y.wid s), fun i h => (n i h).trans (m i h)⟩
theorem PostRt.comp {d : D} {L' : Lcs} {v : V} {σ' : L2.St} {H' : Hp} (x : Ext H F W H1 F1 W1) (s : ∀ a ∈ W2, a ∈ W1) (m : ∀ i ∈ M, σ1[i]? = σ[i]?) (p : PostRt K H1 F1 W2 M σ1 d L' v σ' H') : PostRt K H F W M σ d L' v σ' H' := by
  obtain ⟨F', W', ws', r, l, w, y, n⟩ := p
  exact ⟨F', W', ws', r, l, w, x.trans (y.wid s), fun i h => (n i h).trans (m i h)⟩
theorem AfterS.step (h : AfterS K mg EX H F W M σ r E) (x : Ext H F W H1 F1 W1) (s : ∀ a ∈ W2, a ∈ W1) (m : ∀ i ∈ M, σ1[i]? = σ[i]?) : AfterS K mg EX H1 F1 W2 M σ1 r E := by
  cases r with
  | nx L => exact fun σ' H' p => h σ' H' (p.comp x s m)
  | bk L => exact fun σ' H' p => h σ' H' (p.comp x s m)
  | ct L => exact fun σ' H' p => h σ' H' (p.comp x s m)
  | rt d L => exact fun v σ' H' p => h v σ' H' (p.comp x s m)
  | exn c d => exact fun cls dd H' F' e y => h cls dd H' F' e (x.trans (y.wid s))
  | bad => exact h
theorem AfterS.of {o : Option Lcs} (h : AfterS K mg EX H F W M σ (RS.of o) E) : ∃ L, o = some L ∧ ∀ σ' H', PostN K H F W M σ L σ' H' → E.nx σ' H' := by
  cases o with
  | none => exact h.elim
  | some L => exact ⟨L, rfl, h⟩
theorem AfterS.ofB {α : Type} {o : Option α} {f : α → RS} (h : AfterS K mg EX H F W M σ ((Res.of o).seq f) E) : ∃ x, o = some x ∧ AfterS K mg EX H F W M σ (f x) E := by
  cases o with
  | none => exact h.elim
  | some x => exact ⟨x, rfl, h⟩
end
section
variable {X : Cx} {Z : EnvQ} {Γ : Gam} {EX : XK} {M : List Nat} {σ : L2.St} {H : Hp} {F : Addr → Prop} {W : List Addr} {L : Lcs} {ws : List (List Addr)} {E : Ends}
theorem GoalE.useS {e : Expr} {r : Res (D × Lcs)} {f : D × Lcs → RS} (g : GoalE X EX e σ H F W r) (h : AfterS X.K X.mg EX H F W M σ (r.seq f) E) {R : VK}
    (k : ∀ d L1 v H1, AfterS X.K X.mg EX H F W M σ (f (d, L1)) E → PostVs X.K H F W σ [d] L1 [v] H1 → R v H1) : tW X e σ H R := by
  refine g R ?_
  cases r with
  | ok a => obtain ⟨d, L1⟩ := a; exact fun v H' p => k d L1 v H' h p
  | exn c x => exact h
  | bad => exact h
theorem GoalT.useS {e : Expr} {r : Res (Bool × Lcs)} {f : Bool × Lcs → RS} (g : GoalT X EX e σ H F W r) (h : AfterS X.K X.mg EX H F W M σ (r.seq f) E) {R : Bool → Hp → Prop}
    (k : ∀ d L1 H1, AfterS X.K X.mg EX H F W M σ (f (d, L1)) E → PostT X.K H F W σ L1 H1 → R d H1) : ttW X e σ H R := by
  refine g R ?_
  cases r with
  | ok a => obtain ⟨d, L1⟩ := a; exact fun H' p => k d L1 H' h p
  | exn c x => exact h
  | bad => exact h
theorem GoalA.useS {es : List Expr} {r : Res (List D × Lcs)} {f : List D × Lcs → RS} (g : GoalA X EX es σ H F W r) (h : AfterS X.K X.mg EX H F W M σ (r.seq f) E) {R : List V → Hp → Prop}
    (k : ∀ d L1 v H1, AfterS X.K X.mg EX H F W M σ (f (d, L1)) E → PostVs X.K H F W σ d L1 v H1 → R v H1) : taW X es σ H R := by
  refine g R ?_
  cases r with
  | ok a => obtain ⟨d, L1⟩ := a; exact fun v H' p => k d L1 v H' h p
  | exn c x => exact h
  | bad => exact h
theorem GoalI.useS {tg e : Expr} {r : Res (List D × Lcs)} {f : List D × Lcs → RS} (g : GoalI X EX tg e σ H F W r) (h : AfterS X.K X.mg EX H F W M σ (r.seq f) E) {R : It → Hp → Prop}
    (k : ∀ ds L1 J H1, AfterS X.K X.mg EX H F W M σ (f (ds, L1)) E → PostI X.K H F W σ ds L1 J H1 → R J H1) : tiW X tg e σ H R := by
  refine g R ?_
  cases r with
  | ok a => obtain ⟨d, L1⟩ := a; exact fun J H' p => k d L1 J H' h p
  | exn c x => exact h
  | bad => exact h

def SS (c : S) : Prop := ∀ {X : Cx} {Z : EnvQ} {Γ : Gam} {EX : XK}, Good X Z Γ EX → PassesOwn (model X.prog X.w) X.A X.env X.xe → ∀ {M : List Nat} {st : Stmt}, chkS Γ M c st = true → ∀ {L : Lcs} {σ : L2.St} {ws : List (List Addr)} {H : Hp} {F : Addr → Prop} {E : Ends}, LReps X.K H F L σ ws → Wf H F ws.flatten →
  AfterS X.K X.mg EX H F ws.flatten M σ (runS Z c L) E → tsW X st E σ H
def SSs (c : Ss) : Prop := ∀ {X : Cx} {Z : EnvQ} {Γ : Gam} {EX : XK}, Good X Z Γ EX → PassesOwn (model X.prog X.w) X.A X.env X.xe → ∀ {M : List Nat} {st : List Stmt}, chkSs Γ M c st = true → ∀ {L : Lcs} {σ : L2.St} {ws : List (List Addr)} {H : Hp} {F : Addr → Prop} {E : Ends}, LReps X.K H F L σ ws → Wf H F ws.flatten →
  AfterS X.K X.mg EX H F ws.flatten M σ (runSs Z c L) E → tssW X st E σ H

theorem setAll_out {j : Nat} : ∀ {is : List Nat} {us : List V} {σ : L2.St}, j ∉ is → (setAll σ is us)[j]? = σ[j]?
  | [], us, σ, _ => by cases us <;> rfl
  | i :: is, [], σ, _ => rfl
  | i :: is, u :: us, σ, h => by
    show (setAll (σ.set i (some u)) is us)[j]? = _
    rw [setAll_out fun z => h (List.mem_cons_of_mem _ z), List.getElem?_set_ne fun z => h (by rw [z]; exact List.mem_cons_self)]
theorem mOut {is M : List Nat} (h : (is.all fun i => !decide (i ∈ M)) = true) : ∀ m ∈ M, m ∉ is := fun m hm z => by
  have := List.all_eq_true.mp h m z
  simp [hm] at this

/-! ### stores -/
theorem asg_tgt (G : Good X Z Γ EX) {tg : Tg} {t : Expr} (h : chkTg Γ tg t = true) (hM : (tg.slots.all fun i => !decide (i ∈ M)) = true) {d : D} {L1 : Lcs} {v : V} {H1 : Hp} (q : AfterS X.K X.mg EX H F W M σ (RS.of (tg.set d L1)) E) (p : PostVs X.K H F W σ [d] L1 [v] H1) :
    tgW X t v σ H1 E.nx := by
  obtain ⟨L2, e, q⟩ := q.of
  obtain ⟨F1, W1, ws1, r1, l1, w1, x1⟩ := p
  refine tg_ok G h l1 r1 (W2 := []) (by simpa using w1) e fun us ws' l2 w2 m2 => ?_
  exact q _ _ ⟨F1, ws', l2, by simpa using w2, x1.sub fun a m => List.mem_append.mpr (m2 a m), fun i hi => setAll_out (mOut hM i hi)⟩
theorem each1 {tg : Tg} {t : Expr} {env : PySem.Env} (h : chkTg Γ tg t = true) : (assignEach [t] env).map (·.2) = [assign t env] := by
  cases tg with
  | nm i => obtain ⟨x, pos, rfl, _⟩ := nmOk_out (h : nmOk Γ i t = true); rfl
  | tup is => unfold chkTg at h; simp only at h; split at h <;> first | rfl | exact absurd h Bool.false_ne_true
theorem locs_len {line : Nat} {env : PySem.Env} {g : Expr → Option Str} (hk : ∀ x, env.kindOf x = Γ.sn.lookup x) (hg : ∀ x p, g (.Name x p) = if (env.kindOf x == some NameKind.local && p.line == line) = true then some x else none) (hg2 : ∀ e, (∀ x p, e ≠ .Name x p) → g e = none) : ∀ {ts : List Expr}, match locs Γ line ts with
    | some xs => ts.filterMap g = xs ∧ xs.length = ts.length
    | none => (ts.filterMap g).length < ts.length
  | [] => ⟨rfl, rfl⟩
  | t :: ts => by
    have ih := locs_len (line := line) (env := env) hk hg hg2 (ts := ts)
    have le : (ts.filterMap g).length ≤ ts.length := List.length_filterMap_le _ _
    by_cases hn : ∃ x p, t = .Name x p
    · obtain ⟨x, p, rfl⟩ := hn
      unfold locs
      by_cases hc : Γ.sn.lookup x = some .local ∧ (p.line == line) = true
      · rw [if_pos hc]
        have hc2 : g (.Name x p) = some x := by rw [hg, hk, hc.1, hc.2]; rfl
        cases hl : locs Γ line ts with
        | none =>
          rw [hl] at ih
          rw [List.filterMap_cons_some hc2]
          exact Nat.succ_lt_succ ih
        | some xs =>
          rw [hl] at ih
          rw [List.filterMap_cons_some hc2]
          exact ⟨by rw [ih.1], by simp [ih.2]⟩
      · rw [if_neg hc]
        have hc2 : g (.Name x p) = none := by
          rw [hg, hk]
          cases h1 : (p.line == line) with
          | false => simp
          | true =>
            have : ¬ Γ.sn.lookup x = some .local := fun z => hc ⟨z, h1⟩
            simp [this]
        show (List.filterMap g _).length < _
        rw [List.filterMap_cons_none hc2]
        exact Nat.lt_succ_of_le le
    · have e1 : locs Γ line (t :: ts) = none := by
        cases t <;> first | exact absurd ⟨_, _, rfl⟩ hn | rfl
      rw [e1]
      show (List.filterMap g _).length < _
      rw [List.filterMap_cons_none (hg2 t fun x p z => hn ⟨x, p, z⟩)]
      exact Nat.lt_succ_of_le le
theorem stores_eq (ts vs : List Expr) (a c : Nat) (b d : Pos) (env : PySem.Env) : ∃ (g : Expr → Option Str) (st : Expr → Bool), (∀ x p, g (.Name x p) = if (env.kindOf x == some NameKind.local && p.line == (ts.head?.map (·.pos.line)).getD 0) = true then some x else none) ∧ (∀ e, (∀ x p, e ≠ .Name x p) → g e = none) ∧ (∀ e, notStar e = true → st e = false) ∧
    swappedStores [.Tuple ts a b] (.Tuple vs c d) env = (if (!(ts.length == 2 || ts.length == 3) || vs.length != ts.length || env.blockKind != .function) = true then pure none else if vs.any st = true then pure none else
      if ((ts.filterMap g).length != ts.length || (ts.filterMap g).eraseDups.length != (ts.filterMap g).length) = true then pure none else if vs.all (foldedForSure 8) = true then pure none else
      if vs.all (constantsAlone 8) = true then (do unsupported "assign.tuple-of-constant-expressions:order-of-the-stores"; pure (some (ts.filterMap g))) else pure (some (ts.filterMap g))) :=
  ⟨fun | .Name id pos => if env.kindOf id == some NameKind.local && pos.line == (ts.head?.map (·.pos.line)).getD 0 then some id else none | _ => none, fun | .Starred .. => true | _ => false, fun _ _ => rfl,
    fun e h => by cases e <;> first | rfl | exact absurd rfl (h _ _), fun e h => by cases e <;> first | rfl | (simp [notStar] at h), rfl⟩
theorem Good.kindOf (G : Good X Z Γ EX) (x : Str) : X.env.kindOf x = Γ.sn.lookup x := by rw [← G.sn]; rfl
theorem Good.blk (G : Good X Z Γ EX) : X.env.blockKind = .function := by unfold PySem.Env.blockKind; rw [G.kind]; rfl
theorem swapNone (G : Good X Z Γ EX) {t e : Expr} (h : noPar Γ t e = true) : swappedStores [t] e X.env = pure none := by
  by_cases ht : ∃ ts a b vs c d, t = .Tuple ts a b ∧ e = .Tuple vs c d
  · obtain ⟨ts, a, b, vs, c, d, rfl, rfl⟩ := ht
    obtain ⟨g, st, hg, hg2, hst, eq⟩ := stores_eq ts vs a c b d X.env
    rw [eq]
    simp only [noPar, Bool.or_eq_true] at h
    by_cases h1 : (!(ts.length == 2 || ts.length == 3) || vs.length != ts.length || X.env.blockKind != ScopeKind.function) = true
    · rw [if_pos h1]
    · rw [if_neg h1]
      by_cases h2 : vs.any st = true
      · rw [if_pos h2]
      · rw [if_neg h2]
        have hl := locs_len (line := (ts.head?.map (·.pos.line)).getD 0) G.kindOf hg hg2 (ts := ts)
        simp only [Bool.or_eq_true, not_or] at h1
        rcases h with (h | h) | h
        · exact absurd h (by rcases h1 with ⟨⟨a1, a2⟩, _⟩; simp only [not_or]; exact ⟨a1, a2⟩)
        · cases hx : locs Γ ((ts.head?.map (·.pos.line)).getD 0) ts with
          | some xs => rw [hx] at h; cases h
          | none =>
            rw [hx] at hl
            rw [if_pos (by simp only [Bool.or_eq_true, bne_iff_ne, ne_eq]; exact .inl (Nat.ne_of_lt hl))]
        · by_cases h3 : ((ts.filterMap g).length != ts.length || (ts.filterMap g).eraseDups.length != (ts.filterMap g).length) = true
          · rw [if_pos h3]
          · rw [if_neg h3, if_pos h]
  · cases t <;> cases e <;> first | rfl | (simp [noPar] at h; done) | exact absurd ⟨_, _, _, _, _, _, rfl, rfl⟩ ht
theorem swapSome (G : Good X Z Γ EX) {ts vs : List Expr} {a c : Nat} {b d : Pos} {xs : List Str} (h1 : (ts.length == 2 || ts.length == 3) = true) (h2 : vs.length = ts.length) (h3 : plainOf vs = true) (h4 : locs Γ ((ts.head?.map (·.pos.line)).getD 0) ts = some xs) (h5 : xs.eraseDups.length = xs.length)
    (h6 : vs.all (foldedForSure 8) = false) (h7 : vs.all (constantsAlone 8) = false) : swappedStores [.Tuple ts a b] (.Tuple vs c d) X.env = pure (some xs) := by
  obtain ⟨g, st, hg, hg2, hst, eq⟩ := stores_eq ts vs a c b d X.env
  rw [eq]
  have hl := locs_len (line := (ts.head?.map (·.pos.line)).getD 0) G.kindOf hg hg2 (ts := ts)
  rw [h4] at hl
  have hs : vs.any st = false := by
    clear h2 h6 h7 eq
    induction vs with
    | nil => rfl
    | cons v vs ih =>
      simp only [plainOf, Bool.and_eq_true] at h3
      simp only [List.any_cons, ih h3.2, hst v h3.1, Bool.or_false]
  rw [if_neg (by rw [h1, G.blk, h2]; simp), if_neg (by rw [hs]; exact Bool.false_ne_true), hl.1, if_neg (by simp [hl.2, h5]), if_neg (by rw [h6]; exact Bool.false_ne_true), if_neg (by rw [h7]; exact Bool.false_ne_true)]
end
end Q

namespace Q
open PySem L2 PySem.Spec
section
variable {X : Cx} {Z : EnvQ} {Γ : Gam} {EX : XK} {M : List Nat} {σ : L2.St} {H : Hp} {F : Addr → Prop} {W : List Addr} {L : Lcs} {ws : List (List Addr)} {Ed : Ends}

theorem sw_false (G : Good X Z Γ EX) {t e : Expr} {l : Nat} (h : noLc Γ t e = true) : swapsWithSole [t] e l X.env = pure false := by
  show swapsWith e (some t) l X.env = pure false
  by_cases hl : notLC e = true
  · exact noSwap hl
  · cases e with
    | SetComp _ _ _ _ => exact absurd h (by cases t <;> simp [noLc, notLC])
    | DictComp _ _ _ _ _ => exact absurd h (by cases t <;> simp [noLc, notLC])
    | ListComp elt gs scope pos =>
      cases t with
      | Name x p =>
        simp only [noLc, Bool.or_eq_true, Bool.not_eq_true', decide_eq_false_iff_not] at h
        have e1 : (X.env.kindOf x == some NameKind.local) = decide (Γ.sn.lookup x = some .local) := by
          rw [G.kindOf]
          by_cases hx : Γ.sn.lookup x = some .local
          · rw [hx]; rfl
          · rw [beq_eq_false_iff_ne.mpr hx]; simp [hx]
        show (pure (X.env.blockKind == .function && X.env.kindOf x == some .local && p.line == pos.line && !(scope.names.any fun (n, k) => n == x && (k == .local || k == .cell))) : Sem Bool) = pure false
        congr 1
        rw [e1, G.blk]
        rcases h with (h | h) | h
        · simp [h]
        · rw [h]; simp
        · rw [h]; simp
      | _ => rfl
    | _ => exact absurd rfl hl

theorem swLc_out {t e : Expr} (h : swLc Γ t e = true) : ∃ x p elt gs scope pos, t = .Name x p ∧ e = .ListComp elt gs scope pos ∧ Γ.sn.lookup x = some .local ∧ (p.line == pos.line) = true ∧ (scope.names.any fun (n, k) => n == x && (k == .local || k == .cell)) = false := by
  cases t <;> cases e <;> first | (simp [swLc] at h; done) | skip
  rename_i x p elt gs scope pos
  have h : (decide (Γ.sn.lookup x = some .local) && (p.line == pos.line) && !(scope.names.any fun (n, k) => n == x && (k == .local || k == .cell))) = true := h
  simp only [Bool.and_eq_true, decide_eq_true_eq, Bool.not_eq_true'] at h
  exact ⟨x, p, elt, gs, scope, pos, rfl, rfl, h.1.1, h.1.2, h.2⟩
theorem asg_S {tg : Tg} {e : E} (ih : SE e) : SS (.asg tg e) := by
  intro X Z Γ EX G po M st h L σ ws H F Ed l w q
  simp only [chkS] at h
  split at h <;> try (exact absurd h Bool.false_ne_true)
  rename_i t v pos
  simp only [Bool.and_eq_true, Bool.or_eq_true] at h
  obtain ⟨⟨⟨⟨htg, hM⟩, hv⟩, hnp⟩, hsw⟩ := h
  rw [run_asg] at q
  by_cases hl : noLc Γ t v = true
  · refine toS (ps_asg peW pgW (sw_false G hl) (swapNone G hnp) (each1 htg)) ?_
    exact (ih G hv l w).1.useS q fun d L1 x H1 h1 p => asg_tgt G htg hM h1 p
  · replace hsw := hsw.resolve_left hl
    obtain ⟨hsw, hlc⟩ := hsw
    cases e <;> simp only [isLc, Bool.false_eq_true] at hlc
    rename_i vs tg2 sc cs c
    obtain ⟨x, px, elt, gs, scope, lpos, rfl, rfl, h1, h2, h3⟩ := swLc_out hsw
    have ic : SE (.lc vs tg2 sc cs c) := ih
    have hgs : ∃ tgt iter ifs as, gs = [⟨tgt, iter, ifs, as⟩] := by
      cases gs with
      | nil => simp [chkE] at hv
      | cons g gs =>
        cases gs with
        | cons _ _ => simp [chkE] at hv
        | nil => obtain ⟨tgt, iter, ifs, as⟩ := g; exact ⟨_, _, _, _, rfl⟩
    obtain ⟨tgt, iter, ifs, as, rfl⟩ := hgs
    simp only [chkE, Bool.and_eq_true, decide_eq_true_eq] at hv
    obtain ⟨⟨⟨⟨⟨⟨⟨⟨⟨rfl, hns⟩, hb⟩, htg2⟩, hsl⟩, hsrc⟩, hcs⟩, hln⟩, hcn⟩, helt⟩ := hv
    have hb' := hb
    simp only [blkGood, Bool.and_eq_true, decide_eq_true_eq] at hb'
    have ok : BlkOk X.N X.env.scope scope (ownOf Γ vs) := by
      have := blkOk_by hb'.1.1
      refine ⟨this.kind, this.uniq, by rw [G.N]; exact this.ix, fun y hy e => ?_, by rw [G.N]; exact this.own⟩
      rw [G.sn]; exact this.free y hy e
    have hs : ∀ x, foldedSetIterable iter X.env x = pure x := fun x => by
      cases iter <;> first | rfl | (simp [notSet] at hns)
    have own2 : (ownOf Γ vs).map (·.2) = vs := by
      unfold ownOf
      rw [List.map_map]
      exact List.map_id vs
    have hnm : ∃ i, tg = .nm i ∧ Γ.N[i]? = some x := by
      cases tg with
      | nm i =>
        have htg' : nmOk Γ i (.Name x px) = true := by simpa only [chkTg] using htg
        obtain ⟨y, py, e1, e2, _⟩ := nmOk_out htg'
        cases e1; exact ⟨i, rfl, e2⟩
      | tup is => simp [chkTg] at htg
    obtain ⟨i, rfl, hi⟩ := hnm
    refine toS (ps_setLc (i := i) (own := ownOf Γ vs) (wi := tiW X tgt iter) (g := gB X scope tgt) (tt := tB X scope ifs) (te := eB X scope elt) G.calm (by rw [G.N]; exact G.nd) (by rw [G.N]; exact hi) (by rw [G.sn]; exact h1)
      (sw_true G.kind (by rw [G.sn]; exact h1) h2 h3) piW ok pgB ptsB peB hs) ?_
    rw [own2]
    refine lc_T G (soundSrc sc) (soundCn cs) (soundE c) hb htg2 (fun i m => by simpa using List.all_eq_true.mp hsl i m) hsrc hcs hln hcn helt l w (Q := fun v H1 => Ed.nx (σ.set i (some v)) H1) ?_
    revert q
    generalize den Z (.lc vs tg2 sc cs c) L = r
    intro q
    cases r with
    | exn c x => exact q
    | bad => exact q
    | ok a =>
      obtain ⟨d, L1⟩ := a
      intro v H1 p
      have q : AfterS X.K X.mg EX H F ws.flatten M σ (RS.of ((Tg.nm i).set d L1)) Ed := q
      obtain ⟨L2, e1, q⟩ := q.of
      simp only [Tg.set, Option.some.injEq] at e1
      subst e1
      obtain ⟨F1, W1, ws1, r1, l1, w1, x1⟩ := p
      obtain ⟨l2, w2, m2⟩ := store_one (i := i) (W2 := []) l1 r1 (by simpa using w1)
      exact q _ _ ⟨F1, _, l2, by simpa using w2, x1.sub fun a m => List.mem_append.mpr (m2 a m), fun j hj => by
        rw [List.getElem?_set_ne]
        intro z
        have := mOut hM j hj
        exact this (by rw [← z]; exact List.mem_cons_self)⟩

theorem par_S {is : List Nat} {es : Es} (ih : SEs es) : SS (.par is es) := by
  intro X Z Γ EX G po M st h L σ ws H F Ed l w q
  simp only [chkS] at h
  split at h <;> try (exact absurd h Bool.false_ne_true)
  rename_i ts a b vs c d pos
  simp only [Bool.and_eq_true, decide_eq_true_eq, Bool.not_eq_true'] at h
  obtain ⟨⟨⟨⟨⟨⟨⟨⟨⟨hn, hp⟩, hes⟩, hM⟩, nd⟩, hlocs⟩, hlen⟩, h23⟩, h6⟩, h7⟩ := h
  split at hlocs <;> try (exact absurd hlocs Bool.false_ne_true)
  rename_i xs hx
  simp only [decide_eq_true_eq] at hlocs
  have sw := swapSome (a := a) (c := c) (b := b) (d := d) G h23 hlen hp hx hlocs h6 h7
  rw [run_par] at q
  have key : ∀ us H1 ds L1, AfterS X.K X.mg EX H F ws.flatten M σ (RS.of (setAllO is ds L1)) Ed → PostVs X.K H F ws.flatten σ ds L1 us H1 → us.length = is.length ∧ Ed.nx (setAll σ is us) H1 := by
    intro us H1 ds L1 h1 p
    obtain ⟨L2, e1, h2⟩ := h1.of
    unfold setAllO at e1
    split at e1 <;> simp only [Option.some.injEq, reduceCtorEq] at e1
    rename_i hl
    subst e1
    rw [foldl_setAll] at h2
    obtain ⟨F1, W1, ws1, r1, l1, w1, x1⟩ := p
    obtain ⟨ws', l2, w2, m2⟩ := store_all (W2 := []) hl l1 r1 (by simpa using w1)
    refine ⟨by rw [← r1.length, hl], h2 _ _ ⟨F1, ws', l2, by simpa using w2, x1.sub fun a m => List.mem_append.mpr (m2 a m), fun i hi => setAll_out (mOut hM i hi)⟩⟩
  have ga := (ih G hp hes l w).1
  cases is with
  | nil => cases ts <;> simp [nmsOk] at hn; simp at h23
  | cons i is =>
    cases ts with
    | nil => simp at h23
    | cons t ts =>
      simp only [nmsOk, Bool.and_eq_true] at hn
      obtain ⟨x, px, rfl, hxi, _⟩ := nmOk_out hn.1
      cases is with
      | nil => cases ts <;> simp [nmsOk] at hn; simp at h23
      | cons j is =>
        cases ts with
        | nil => simp [nmsOk] at hn
        | cons t2 ts =>
          simp only [nmsOk, Bool.and_eq_true] at hn
          obtain ⟨y, py, rfl, hyj, _⟩ := nmOk_out hn.2.1
          have hij : i ≠ j := by
            have := (List.nodup_cons.mp nd).1
            intro z; exact this (by rw [z]; exact List.mem_cons_self)
          cases is with
          | nil =>
            cases ts with
            | cons _ _ => simp [nmsOk] at hn
            | nil =>
              obtain ⟨u, hu⟩ : ∃ u z, vs = [u, z] := by
                cases vs with
                | nil => simp at hlen
                | cons u vs => cases vs with
                  | nil => simp at hlen
                  | cons z vs => cases vs with
                    | nil => exact ⟨u, z, rfl⟩
                    | cons _ _ => simp at hlen
              obtain ⟨z, rfl⟩ := hu
              simp only [locs] at hx
              split at hx <;> try (simp at hx; done)
              rename_i hc1
              split at hx <;> try (simp at hx; done)
              rename_i r hr
              split at hr <;> try (simp at hr; done)
              rename_i hc2
              simp only [Option.some.injEq] at hr hx
              subst hr; subst hx
              refine toS (ps_par (i := i) (j := j) G.calm (by rw [G.N]; exact G.nd) (by rw [G.N]; exact hxi) (by rw [G.N]; exact hyj) hij (by rw [G.sn]; exact hc1.1) (by rw [G.sn]; exact hc2.1) paW sw) ?_
              refine ga.useS q fun ds L1 us H1 h1 p => ?_
              obtain ⟨e1, e2⟩ := key us H1 ds L1 h1 p
              cases us with
              | nil => simp at e1
              | cons u1 us => cases us with
                | nil => simp at e1
                | cons u2 us => cases us with
                  | nil => exact ⟨u1, u2, rfl, e2⟩
                  | cons _ _ => simp at e1
          | cons k is =>
            cases ts with
            | nil => simp [nmsOk] at hn
            | cons t3 ts =>
              simp only [nmsOk, Bool.and_eq_true] at hn
              obtain ⟨zz, pz, rfl, hzk, _⟩ := nmOk_out hn.2.2.1
              cases ts with
              | cons _ _ => simp at h23
              | nil =>
                cases is with
                | cons _ _ => simp [nmsOk] at hn
                | nil =>
                  obtain ⟨u, u', u'', rfl⟩ : ∃ u u' u'', vs = [u, u', u''] := by
                    cases vs with
                    | nil => simp at hlen
                    | cons u vs => cases vs with
                      | nil => simp at hlen
                      | cons z vs => cases vs with
                        | nil => simp at hlen
                        | cons z2 vs => cases vs with
                          | nil => exact ⟨u, z, z2, rfl⟩
                          | cons _ _ => simp at hlen
                  simp only [locs] at hx
                  split at hx <;> try (simp at hx; done)
                  rename_i hc1
                  split at hx <;> try (simp at hx; done)
                  rename_i r hr
                  split at hr <;> try (simp at hr; done)
                  rename_i hc2
                  split at hr <;> try (simp at hr; done)
                  rename_i r2 hr2
                  split at hr2 <;> try (simp at hr2; done)
                  rename_i hc3
                  simp only [Option.some.injEq] at hr2 hr hx
                  subst hr2; subst hr; subst hx
                  have nd3 : i ≠ k ∧ j ≠ k := by
                    simp only [List.nodup_cons, List.mem_cons, not_or] at nd
                    exact ⟨nd.1.2.1, nd.2.1.1⟩
                  refine toS (ps_par3 (i := i) (j := j) (l := k) G.calm (by rw [G.N]; exact G.nd) (by rw [G.N]; exact hxi) (by rw [G.N]; exact hyj) (by rw [G.N]; exact hzk) hij nd3.1 nd3.2 (by rw [G.sn]; exact hc1.1) (by rw [G.sn]; exact hc2.1) (by rw [G.sn]; exact hc3.1) paW sw) ?_
                  refine ga.useS q fun ds L1 us H1 h1 p => ?_
                  obtain ⟨e1, e2⟩ := key us H1 ds L1 h1 p
                  cases us with
                  | nil => simp at e1
                  | cons u1 us => cases us with
                    | nil => simp at e1
                    | cons u2 us => cases us with
                      | nil => simp at e1
                      | cons u3 us => cases us with
                        | nil => exact ⟨u1, u2, u3, rfl, e2⟩
                        | cons _ _ => simp at e1
end
end Q

namespace Q
open PySem L2 PySem.Spec
section
variable {X : Cx} {Z : EnvQ} {Γ : Gam} {EX : XK} {M : List Nat} {σ : L2.St} {H : Hp} {F : Addr → Prop} {W : List Addr} {L : Lcs} {ws : List (List Addr)} {Ed : Ends}

theorem setxRun_out {G : Str → Option D} {i : Nat} {path : List P} {k : P} {x : D} {L' : Lcs} (h : setxRun G i path k x L = some L') :
    ∃ d is j d', L[i]? = some (some d) ∧ pathInts G L path = some is ∧ pur G k L = some (.int j) ∧ updPath (fun ds => match ixN ds.length j with | some n => some (ds.set n x) | none => none) d is = some d' ∧ L' = L.set i (some d') := by
  unfold setxRun at h
  split at h <;> try (cases h)
  rename_i d is j e1 e2 e3
  split at h <;> try (cases h)
  rename_i d' e4
  exact ⟨d, is, j, d', e1, e2, e3, e4, rfl⟩
theorem upd_at {f : List D → Option (List D)} : ∀ {is : List Int} {d d' : D}, updPath f d is = some d' → ∃ ds es, atPath d is = some (.lst true ds) ∧ f ds = some es
  | [], d, d', h => by
    unfold updPath at h
    split at h
    · rename_i ds hh
      split at h <;> try (cases h)
      rename_i es e
      exact ⟨ds, es, rfl, e⟩
    · rename_i hh; exact absurd hh (fun z => nomatch z)
    · cases h
  | i :: is, d, d', h => by
    unfold updPath at h
    split at h
    · rename_i hh; exact absurd hh (fun z => nomatch z)
    · rename_i ds i' r hh
      cases hh
      split at h <;> try (cases h)
      rename_i j ej
      split at h <;> try (cases h)
      rename_i d1 e1
      split at h <;> try (cases h)
      rename_i d2 e2
      obtain ⟨ds2, es, h1, h2⟩ := upd_at e2
      refine ⟨ds2, es, ?_, h2⟩
      have : atI ds i = some d1 := by unfold atI; rw [ej]; exact e1
      simp only [atPath, this, h1]
    · cases h

theorem setx_S {i : Nat} {path : List P} {k : P} {e : E} (ih : SE e) : SS (.setx i path k e) := by
  intro X Z Γ EX G po M st h L σ ws H F Ed l w q
  simp only [chkS] at h
  split at h <;> try (exact absurd h Bool.false_ne_true)
  rename_i o y opos v pos
  simp only [Bool.and_eq_true] at h
  obtain ⟨⟨⟨⟨⟨hp, hk⟩, hns⟩, hv⟩, hnl⟩, hnt⟩ := h
  rw [run_setx] at q
  have e0 : noLc Γ (.Subscript o y opos) v = true := by
    have : noLc Γ (.Subscript o y opos) v = notLC v := by cases v <;> rfl
    rw [this]; exact hnl
  refine toS (ps_asg peW (pg_sub peW peW set_list (by intro v; cases y <;> first | rfl | (simp [notSlice] at hns))) (sw_false G e0) (by cases v <;> first | rfl | (simp [notTup] at hnt)) (by rfl)) ?_
  refine (ih G hv l w).1.useS q fun d L1 x H1 h1 p => ?_
  obtain ⟨L2, er, h2⟩ := h1.of
  obtain ⟨d0, is, j, d', e1, e2, e3, e4, rfl⟩ := setxRun_out er
  obtain ⟨F1, W1, ws1, r1, l1, w1, x1⟩ := p
  obtain ⟨ds, es, ea, ef⟩ := upd_at e4
  obtain ⟨v0, a, us, _, _, s1, pw, s3, _⟩ := slot_upd l1 e1 w1 ea
  refine path_E G hp l1 s1 (by rw [List.reverse_reverse]; exact e2) pw fun H2 k2 => ?_
  refine (soundP G k y hk (k2.lreps l1) e3).1 fun u H3 pv => ?_
  obtain ⟨Wu, ru, _, _⟩ := pv.ex
  have kk : KA H1 H3 := k2.trans pv.ka
  obtain ⟨v2, a2, us2, Wi, W', s1', pw', s3', r4, p4, p6, p7, p8, p9⟩ := slot_upd (W0 := W1) (kk.lreps l1) e1 (kk.wf w1) ea
  rw [s1] at s1'; cases s1'
  have eaa := (pw.ka kk).inj pw'
  cases eaa
  split at ef <;> try (cases ef)
  rename_i n en
  have hl := r4.length
  obtain ⟨t1, t2, t3, t4⟩ := ixN_seq en
  have eg : ds[n]? = some ds[n] := by simp [t2]
  obtain ⟨vn, Wa, Wd, Wb, h1', rfl, ra, rd, rb⟩ := r4.split3 eg
  have rx := kk.reps r1
  have rj := Reps.join3 ra rx rb t2 hl
  have na : a ∉ Wa ++ (W1 ++ Wb) := fun z => by
    rcases List.mem_append.mp z with z | z
    · exact p8 (List.mem_append_left _ z)
    · rcases List.mem_append.mp z with z | z
      · exact p7 z
      · exact p8 (List.mem_append_right _ (List.mem_append_right _ z))
  obtain ⟨ws', q1, q2, q3⟩ := p9 (fun ds => match ixN ds.length j with | some n => some (ds.set n d) | none => none) (us2.set n x) (ds.set n d) d' (Wa ++ (W1 ++ Wb)) [] Wd (by simp only [en]) e4 (frame1 s3' rj na p6) (by
    refine List.perm_iff_count.mpr fun c => ?_
    simp only [List.count_append, List.count_nil]
    omega)
  exact ⟨a, us2, j, n, rfl, ru.intI, s3', by rw [← hl]; exact en, h2 _ _ ⟨F1, ws', q1, by simpa using q2, x1.trans (kk.ext.trans (by simpa using q3)), fun _ _ => rfl⟩⟩

theorem ex_S {e : E} (ih : SE e) : SS (.ex e) := by
  intro X Z Γ EX G po M st h L σ ws H F Ed l w q
  simp only [chkS] at h
  split at h <;> try (exact absurd h Bool.false_ne_true)
  simp only [Bool.and_eq_true] at h
  rw [run_ex] at q
  refine toS (ps_expr peW (noSwap h.2)) ?_
  refine (ih G h.1 l w).1.useS q fun d L1 x H1 h1 p => ?_
  obtain ⟨F1, W1, ws1, r1, l1, w1, x1⟩ := p
  exact h1 _ _ ⟨F1, ws1, l1, w1.right, x1.sub fun a m => List.mem_append_right _ m, fun _ _ => rfl⟩

theorem appRun_out {G : Str → Option D} {i : Nat} {path : List P} {x : D} {L' : Lcs} (h : appRun G i path x L = some L') :
    ∃ d is d', L[i]? = some (some d) ∧ pathInts G L path = some is ∧ updPath (appF x) d is = some d' ∧ L' = L.set i (some d') := by
  unfold appRun at h
  split at h <;> try (cases h)
  rename_i d is e1 e2
  split at h <;> try (cases h)
  rename_i d' e4
  exact ⟨d, is, d', e1, e2, e4, rfl⟩
/-- a thing put behind the list -/
theorem app_post {K : PySem.W.Frag} {i : Nat} {d d' x : D} {u : V} {is : List Int} {W1 : List Addr} (l : LReps K H F L σ ws) (w : Wf H F (W1 ++ ws.flatten)) (r : Reps K H F [x] [u] W1) (e1 : L[i]? = some (some d)) (e4 : updPath (appF x) d is = some d') :
    ∃ v a us, σ[i]? = some (some v) ∧ PathW H v is (.ref a) ∧ H a = some (.lst us) ∧ us.length < sizeLine ∧ ∃ ws', LReps K (upd H a (.lst (us ++ [u]))) F (L.set i (some d')) σ ws' ∧ Wf (upd H a (.lst (us ++ [u]))) F ws'.flatten ∧ Ext H F (W1 ++ ws.flatten) (upd H a (.lst (us ++ [u]))) F ws'.flatten := by
  obtain ⟨ds, es, ea, ef⟩ := upd_at e4
  obtain ⟨v, a, us, Wi, W', p1, p2, p3, p4, p5, p6, p7, p8, p9⟩ := slot_upd l e1 w ea
  have na : a ∉ Wi ++ W1 := fun z => (List.mem_append.mp z).elim p8 p7
  have hlt : ds.length < 1000000 := by
    unfold appF at ef
    split at ef
    · assumption
    · cases ef
  obtain ⟨ws', q1, q2, q3⟩ := p9 (appF x) (us ++ [u]) (ds ++ [x]) d' (Wi ++ W1) [] [] (by unfold appF; rw [if_pos hlt]) e4 (frame1 p3 (p4.append r) na p6) (by
    refine List.perm_iff_count.mpr fun c => ?_
    simp only [List.count_append, List.count_nil]
    omega)
  exact ⟨v, a, us, p1, p2, p3, by rw [← p4.length, sizeLine_eq]; omega, ws', q1, by simpa using q2, by simpa using q3⟩
theorem app_go {i : Nat} {path : List P} {o y : Expr} {apos cpos pos : Pos} (G : Good X Z Γ EX) (hline : (apos.endLine == cpos.line) = true) (hp : chkPath Γ i path.reverse o = true) (ns : notStar y = true) {is : List Int} {v : V} {a : Addr} {us : List V}
    (l : LReps X.K H F L σ ws) (s1 : σ[i]? = some (some v)) (e2 : pathInts Z.G L path = some is) (pw : PathW H v is (.ref a)) (s3 : H a = some (.lst us))
    (q : ∀ H1, KA H H1 → tW X y σ H1 fun x H2 => rAppend (.ref a) [x] H2 fun _ H3 => Ed.nx σ H3) : tsW X (.Expr (.Call (.Attribute o (Str.ofString "append") apos) [y] [] cpos) pos) Ed σ H := by
  refine toS (ps_expr (pe_bm PySem.F.plainAttrs_list PySem.F.slot_list_append PySem.F.type_list_append mt_append peW (pa_cons peW pa_nil (starEach_of ns)) (attrBase hp) (few1 ns) hline (starEach_of ns) rfl) rfl) ?_
  refine path_E G hp l s1 (by rw [List.reverse_reverse]; exact e2) pw fun H1 k1 => ⟨.inl ⟨rfl, us, .inl (.inl (k1 _ _ s3))⟩, ?_⟩
  exact q H1 k1
theorem app_S {i : Nat} {path : List P} {e : E} (ih : SE e) : SS (.app i path e) := by
  intro X Z Γ EX G po M st h L σ ws H F Ed l w q
  simp only [chkS] at h
  split at h <;> try (exact absurd h Bool.false_ne_true)
  split at h <;> try (exact absurd h Bool.false_ne_true)
  rename_i o nm apos cpos pos _ y
  simp only [Bool.and_eq_true, decide_eq_true_eq] at h
  obtain ⟨⟨⟨⟨rfl, hline⟩, hp⟩, ns⟩, hy⟩ := h
  cases path with
  | nil =>
    rw [run_app0] at q
    obtain ⟨_, el, q⟩ := q.ofB
    unfold lstAt at el
    split at el <;> try (cases el)
    rename_i ds0 hd0
    obtain ⟨v, s1, r0, _⟩ := l.get hd0
    obtain ⟨a, us0, W0, rfl, s3, _⟩ := r0.lstI
    refine app_go G hline hp ns l s1 rfl .nil s3 fun H1 k1 => ?_
    have gc := (ih G hy (k1.lreps l) (k1.wf w)).1
    have q' := q.step (k1.ext (F := F) (W := ws.flatten)) (W2 := ws.flatten) (σ1 := σ) (fun _ m => m) fun _ _ => rfl
    refine (tW.len (gc.useS (R := fun x H2 => ∃ d L1, AfterS X.K X.mg EX H1 F ws.flatten M σ (RS.of (appRun Z.G i [] d L1)) Ed ∧ PostVs X.K H1 F ws.flatten σ [d] L1 [x] H2) q' fun d L1 x H2 h1 pv => ⟨d, L1, h1, pv⟩)).mono fun x H2 ⟨⟨d, L1, h1, pv⟩, lo⟩ => ?_
    obtain ⟨F1, W1, ws1, r1, l1, w1, x1⟩ := pv
    obtain ⟨L2, er, h2⟩ := h1.of
    obtain ⟨d0, is, d', e1, e2, e4, rfl⟩ := appRun_out er
    simp only [pathInts, Option.some.injEq] at e2
    subst e2
    obtain ⟨v2, a2, us2, s1', pw', s3', hlt, ws', q1, q2, q3⟩ := app_post l1 w1 r1 e1 e4
    rw [s1] at s1'; cases s1'
    cases pw'
    exact ⟨a, us2, x, rfl, rfl, s3', hlt, h2 _ _ ⟨F1, ws', q1, q2, x1.trans q3, fun _ _ => rfl⟩⟩
  | cons p ps =>
    rw [run_app1] at q
    obtain ⟨d, ed, q⟩ := q.ofB
    unfold noOwnOf at ed
    split at ed <;> try (cases ed)
    rename_i d1 ed1
    split at ed <;> simp only [Option.some.injEq, reduceCtorEq] at ed
    rename_i hno
    subst ed
    obtain ⟨L2, er, h2⟩ := q.of
    obtain ⟨d0, is, d', e1, e2, e4, rfl⟩ := appRun_out er
    obtain ⟨ds, es, ea, ef⟩ := upd_at e4
    obtain ⟨v, a, us, _, _, s1, pw, s3, _⟩ := slot_upd (W0 := []) l e1 (by simpa using w) ea
    refine app_go G hline hp ns l s1 e2 pw s3 fun H1 k1 => ?_
    cases e with
    | p p0 =>
      simp only [purE] at ed1
      refine (tW.len ((soundP G p0 y (by simpa [chkE] using hy) (k1.lreps l) ed1).1 (Q := fun v H' => PV X.K H1 F ws p0 d1 v H') fun _ _ pv => pv)).mono fun u0 H2 ⟨pv, lo⟩ => ?_
      obtain ⟨W1, r, m1, m2⟩ := pv.ex
      have e0 := r.noOwn (by simpa [D.noOwns] using hno)
      subst e0
      have kk : KA H H2 := k1.trans pv.ka
      obtain ⟨v2, a2, us2, s1', pw', s3', hlt, ws', q1, q2, q3⟩ := app_post (W1 := []) (kk.lreps l) (by simpa using kk.wf w) r e1 e4
      rw [s1] at s1'; cases s1'
      have eaa := (pw.ka kk).inj pw'
      cases eaa
      exact ⟨_, us2, u0, rfl, rfl, s3', hlt, h2 _ _ ⟨F, ws', q1, q2, kk.ext.trans (by simpa using q3), fun _ _ => rfl⟩⟩
    | _ => simp [purE] at ed1

theorem extRun_out {i : Nat} {x : D} {L' : Lcs} (h : extRun i x L = some L') : ∃ ds o es, L[i]? = some (some (.lst true ds)) ∧ x = .lst o es ∧ ds.length + es.length ≤ 1000000 ∧ L' = L.set i (some (.lst true (ds ++ es))) := by
  unfold extRun at h
  split at h
  · rename_i h1
    split at h <;> simp only [Option.some.injEq, reduceCtorEq] at h
    rename_i h2
    exact ⟨_, _, _, h1, rfl, h2, h.symm⟩
  · cases h
theorem ext_S {i : Nat} {e : E} (ih : SE e) : SS (.ext i e) := by
  intro X Z Γ EX G po M st h L σ ws H F Ed l w q
  simp only [chkS] at h
  split at h <;> try (exact absurd h Bool.false_ne_true)
  split at h <;> try (exact absurd h Bool.false_ne_true)
  rename_i o nm apos cpos pos _ y
  simp only [Bool.and_eq_true, decide_eq_true_eq] at h
  obtain ⟨⟨⟨⟨rfl, hline⟩, hp⟩, ns⟩, hy⟩ := h
  rw [run_ext] at q
  obtain ⟨_, el, q⟩ := q.ofB
  unfold lstAt at el
  split at el <;> try (cases el)
  rename_i ds0 hd0
  obtain ⟨v, s1, r0, _⟩ := l.get hd0
  obtain ⟨a, us0, W0, rfl, s3, _⟩ := r0.lstI
  refine toS (ps_expr (pe_bm PySem.F.plainAttrs_list PySem.F.slot_list_extend PySem.F.type_list_extend mt_extend peW (pa_cons peW pa_nil (starEach_of ns)) (attrBase hp) (few1 ns) hline (starEach_of ns) rfl) rfl) ?_
  refine path_E G hp l s1 (is := []) rfl .nil fun H1 k1 => ⟨.inl ⟨rfl, us0, .inl (.inl (k1 _ _ s3))⟩, ?_⟩
  have gc := (ih G hy (k1.lreps l) (k1.wf w)).1
  have q' := q.step (k1.ext (F := F) (W := ws.flatten)) (W2 := ws.flatten) (σ1 := σ) (fun _ m => m) fun _ _ => rfl
  refine gc.useS q' fun d L1 x H2 h1 pv => ?_
  obtain ⟨F1, W1, ws1, r1, l1, w1, x1⟩ := pv
  obtain ⟨L2, er, h2⟩ := h1.of
  obtain ⟨ds, o2, es, e1, rfl, hlen, rfl⟩ := extRun_out (show extRun i d L1 = some L2 from er)
  obtain ⟨b, zs, Wz, rfl, sz, rz, sbz, _⟩ := r1.lstI
  have w2 : Wf H2 F1 (Wz ++ ws1.flatten) := w1.sub (List.Sublist.append sbz (List.Sublist.refl _))
  obtain ⟨v2, a2, us2, Wi, W', s1', pw', s3', r4, p4, p6, p7, p8, p9⟩ := slot_upd (is := []) (ds := ds) l1 e1 w2 rfl
  rw [s1] at s1'; cases s1'
  cases pw'
  have na : a ∉ Wi ++ Wz := fun z => (List.mem_append.mp z).elim p8 p7
  obtain ⟨ws', q1, q2, q3⟩ := p9 (fun ds => some (ds ++ es)) (us2 ++ zs) (ds ++ es) (.lst true (ds ++ es)) (Wi ++ Wz) [] [] rfl rfl (frame1 s3' (r4.append rz) na p6) (by
    refine List.perm_iff_count.mpr fun c => ?_
    simp only [List.count_append, List.count_nil]
    omega)
  have hl1 := r4.length
  have hl2 := rz.length
  refine ⟨a, b, us2, zs, rfl, rfl, s3', sz, by rw [sizeLine_eq]; omega, h2 _ _ ⟨F1, ws', q1, by simpa using q2, ?_, fun _ _ => rfl⟩⟩
  exact (x1.sub fun c m => (List.Sublist.append sbz (List.Sublist.refl _)).subset m).trans (by simpa using q3)

theorem ifs_S {c : E} {a b : Ss} (ihc : SE c) (iha : SSs a) (ihb : SSs b) : SS (.ifs c a b) := by
  intro X Z Γ EX G po M st h L σ ws H F Ed l w q
  simp only [chkS] at h
  split at h <;> try (exact absurd h Bool.false_ne_true)
  rename_i t xs ys pos
  simp only [Bool.and_eq_true] at h
  obtain ⟨⟨⟨ht, hk⟩, ha⟩, hb⟩ := h
  rw [run_ifs] at q
  have q2 : AfterS X.K X.mg EX H F ws.flatten M σ ((tst Z c L).seq fun r => if r.1 then runSs Z a r.2 else runSs Z b r.2) Ed := by
    revert q
    unfold tst
    generalize rdW Z c (fun L => den Z c L) L = r
    intro q
    cases r with
    | ok p =>
      obtain ⟨d, L1⟩ := p
      obtain ⟨k, ek, q⟩ := q.ofB
      show AfterS X.K X.mg EX H F ws.flatten M σ (((Res.of (tru d)).bind fun b => .ok (b, L1)).seq _) Ed
      rw [ek]
      exact q
    | exn c x => exact q
    | bad => exact q
  refine toS (ps_if ptW pssW pssW) (((ihc G ht l w).2 hk).useS q2 fun k L1 H1 h1 p => ?_)
  obtain ⟨F1, ws1, l1, w1, x1⟩ := p
  cases k with
  | true =>
    rw [if_pos rfl]
    exact iha G po ha l1 w1 (h1.step x1 (fun _ m => m) fun _ _ => rfl)
  | false =>
    rw [if_neg Bool.false_ne_true]
    exact ihb G po hb l1 w1 (h1.step x1 (fun _ m => m) fun _ _ => rfl)

/-- one turn's end -/
def stepR (next : Lcs → RS) : RS → RS
  | .nx L => next L
  | .ct L => next L
  | .bk L => .nx L
  | r => r
theorem turn_S {K : PySem.W.Frag} {mg : Str → Option Value} {r : RS} {next : Lcs → RS} {N : L2.St → Hp → Prop} (q : AfterS K mg EX H F W M σ (stepR next r) Ed)
    (hN : ∀ L' σ' H', AfterS K mg EX H F W M σ (next L') Ed → PostN K H F W M σ L' σ' H' → N σ' H') : AfterS K mg EX H F W M σ r { Ed with nx := N, ct := N, bk := Ed.nx } := by
  cases r with
  | nx L' => exact fun σ' H' p => hN L' σ' H' q p
  | ct L' => exact fun σ' H' p => hN L' σ' H' q p
  | bk L' => exact q
  | rt d L' => exact q
  | exn c x => exact q
  | bad => exact q
theorem forRun_cons {tg : Tg} {body : Lcs → RS} {x : D} {xs : List D} : forRun tg body (x :: xs) L = match tg.set x L with | none => .bad | some L1 => stepR (forRun tg body xs) (body L1) := by
  rw [forRun]
  cases tg.set x L with
  | none => rfl
  | some L1 => simp only; cases body L1 <;> rfl
theorem whlRun_succ {cond : Lcs → Res (Bool × Lcs)} {body : Lcs → RS} {n : Nat} : whlRun cond body (n + 1) L = (cond L).seq fun r => if r.1 then stepR (whlRun cond body n) (body r.2) else .nx r.2 := by
  rw [whlRun]
  congr 1

def ForInv (K : PySem.W.Frag) (mg : Str → Option Value) (EX : XK) (M : List Nat) (H1 : Hp) (F1 : Addr → Prop) (W : List Addr) (run : List D → Lcs → RS) (ds : List D) (Ed : Ends) (i : Nat) (σ : L2.St) (H : Hp) : Prop :=
  ∃ (Fi : Addr → Prop) (Li : Lcs) (wsi : List (List Addr)), LReps K H Fi Li σ wsi ∧ Wf H Fi wsi.flatten ∧ Ext H1 F1 W H Fi wsi.flatten ∧ AfterS K mg EX H Fi wsi.flatten M σ (run (ds.drop i) Li) Ed

theorem for_S {tg : Tg} {s : Src} {b : Ss} (ihs : SSrc s) (ihb : SSs b) : SS (.for_ tg s b) := by
  intro X Z Γ EX G po M st h L σ ws H F Ed l w q
  simp only [chkS] at h
  split at h <;> try (exact absurd h Bool.false_ne_true)
  rename_i t it xs ys pos
  simp only [Bool.and_eq_true] at h
  obtain ⟨⟨⟨⟨⟨htg, hM⟩, hsrc⟩, hns⟩, hb⟩, hy⟩ := h
  have hy : ys = [] := by simpa using hy
  subst hy
  rw [run_for] at q
  have hs : ∀ x, foldedSetIterable it X.env x = pure x := fun x => by
    cases it <;> first | rfl | (simp [notSet] at hns)
  refine toS (ps_for po G.calm piW pgW pssW hs) ((ihs G hsrc l w).useS q fun ds L1 J H1 h1 p => ?_)
  obtain ⟨F1, ws1, wk, l1, w1, x1⟩ := p
  refine for_it wk.2 (ForInv X.K X.mg EX M H1 F1 ws1.flatten (forRun tg (fun L => runSs Z b L)) ds Ed) ?_ ?_ ?_ ?_
  · exact ⟨F1, L1, ws1, l1, w1, Ext.refl, by rw [List.drop_zero]; exact h1.step x1 (fun _ m => m) fun _ _ => rfl⟩
  · rintro i σi Hi _ ⟨Fi, Li, wsi, _, _, x, _⟩
    exact Kp.of x l1.muts w1.dj
  · rintro i x σi Hi H' hi ⟨Fi, Li, wsi, li, wi, xi, qi⟩ ⟨ka, d, hd, hrd⟩
    have e1 : ds.drop i = d :: ds.drop (i + 1) := by
      obtain ⟨h1, h2⟩ := List.getElem?_eq_some_iff.mp hd
      rw [← h2]; exact List.drop_eq_getElem_cons h1
    rw [e1, forRun_cons] at qi
    cases hset : tg.set d Li with
    | none => rw [hset] at qi; exact qi.elim
    | some La =>
      rw [hset] at qi
      refine tg_ok G htg (ka.lreps li) (hrd Fi xi.mono) (W2 := []) (by simpa using ka.wf wi) hset fun us ws' la wa sa => ?_
      have xa : Ext Hi Fi wsi.flatten H' Fi ws'.flatten := (ka.ext (F := Fi) (W := wsi.flatten)).sub fun a m => by
        rcases sa a m with z | z
        · cases z
        · exact z
      have wa' : Wf H' Fi ws'.flatten := by simpa using wa
      have qa := qi.step xa (W2 := ws'.flatten) (σ1 := setAll σi tg.slots us) (fun _ m => m) fun m hm => setAll_out (mOut hM m hm)
      refine ihb G po hb la wa' (turn_S qa fun L' σ' H'' qn p => ?_)
      obtain ⟨Fn, wsn, ln, wn, xn, mn⟩ := p
      exact ⟨Fn, L', wsn, ln, wn, (xi.trans xa).trans xn, qn.step xn (fun _ m => m) mn⟩
  · rintro σn Hn ⟨Fi, Li, wsi, li, wi, xi, qi⟩
    rw [List.drop_length, forRun] at qi
    exact qi _ _ ⟨Fi, wsi, li, wi, Ext.refl, fun _ _ => rfl⟩

theorem whl_S {c : E} {b : Ss} (ihc : SE c) (ihb : SSs b) : SS (.whl c b) := by
  intro X Z Γ EX G po M st h L σ ws H F Ed l w q
  simp only [chkS] at h
  split at h <;> try (exact absurd h Bool.false_ne_true)
  rename_i t xs ys pos
  simp only [Bool.and_eq_true] at h
  obtain ⟨⟨⟨ht, hk⟩, hb⟩, hy⟩ := h
  have hy : ys = [] := by simpa using hy
  subst hy
  rw [run_whl] at q
  refine toS (ps_while po ptW pssW) ⟨fun m σ' H' => ∃ (F' : Addr → Prop) (L' : Lcs) (ws' : List (List Addr)), LReps X.K H' F' L' σ' ws' ∧ Wf H' F' ws'.flatten ∧ AfterS X.K X.mg EX H' F' ws'.flatten M σ' (whlRun (fun L => tst Z c L) (fun L => runSs Z b L) m L') Ed, ⟨Z.N, F, L, ws, l, w, q⟩, ?_⟩
  rintro m σ1 H1 ⟨F1, L1, ws1, l1, w1, q1⟩
  cases m with
  | zero => exact q1.elim
  | succ m =>
    rw [whlRun_succ] at q1
    refine ((ihc G ht l1 w1).2 hk).useS q1 fun k L2 H2 h2 p => ?_
    obtain ⟨F2, ws2, l2, w2, x2⟩ := p
    cases k with
    | false =>
      rw [if_neg Bool.false_ne_true]
      exact h2 _ _ ⟨F2, ws2, l2, w2, x2, fun _ _ => rfl⟩
    | true =>
      rw [if_pos rfl]
      refine ⟨fun σ' H' => ∃ (F' : Addr → Prop) (L' : Lcs) (ws' : List (List Addr)), LReps X.K H' F' L' σ' ws' ∧ Wf H' F' ws'.flatten ∧ AfterS X.K X.mg EX H' F' ws'.flatten M σ' (whlRun (fun L => tst Z c L) (fun L => runSs Z b L) m L') Ed, fun σ' H' n => ⟨m, Nat.lt_succ_self m, n⟩, ?_⟩
      have h2' : AfterS X.K X.mg EX H1 F1 ws1.flatten M σ1 (stepR (whlRun (fun L => tst Z c L) (fun L => runSs Z b L) m) (runSs Z b L2)) Ed := h2
      refine ihb G po hb l2 w2 (turn_S (h2'.step x2 (fun _ m => m) fun _ _ => rfl) fun L' σ' H'' qn p => ?_)
      obtain ⟨Fn, wsn, ln, wn, xn, mn⟩ := p
      exact ⟨Fn, L', wsn, ln, wn, qn.step xn (fun _ m => m) mn⟩

theorem ret_S {e : E} (ih : SE e) : SS (.ret e) := by
  intro X Z Γ EX G po M st h L σ ws H F Ed l w q
  simp only [chkS] at h
  split at h <;> try (exact absurd h Bool.false_ne_true)
  rw [run_ret] at q
  refine toS (ps_ret peW) ((ih G h l w).1.useS q fun d L1 v H1 h1 p => ?_)
  obtain ⟨F1, W1, ws1, r1, l1, w1, x1⟩ := p
  exact h1 v σ H1 ⟨F1, W1, ws1, r1, l1, w1, x1, fun _ _ => rfl⟩
theorem retn_S : SS .retn := by
  intro X Z Γ EX G po M st h L σ ws H F Ed l w q
  simp only [chkS] at h
  split at h <;> try (exact absurd h Bool.false_ne_true)
  rw [run_retn] at q
  exact toS ps_retN (q .non σ H ⟨F, [], ws, .non .nil, l, by simpa using w, by simpa using Ext.refl, fun _ _ => rfl⟩)
theorem brk_S : SS .brk := by
  intro X Z Γ EX G po M st h L σ ws H F Ed l w q
  simp only [chkS] at h
  split at h <;> try (exact absurd h Bool.false_ne_true)
  rw [run_brk] at q
  exact toS ps_break (q σ H ⟨F, ws, l, w, Ext.refl, fun _ _ => rfl⟩)
theorem cont_S : SS .cont := by
  intro X Z Γ EX G po M st h L σ ws H F Ed l w q
  simp only [chkS] at h
  split at h <;> try (exact absurd h Bool.false_ne_true)
  rw [run_cont] at q
  exact toS ps_continue (q σ H ⟨F, ws, l, w, Ext.refl, fun _ _ => rfl⟩)
theorem pass_S : SS .pass := by
  intro X Z Γ EX G po M st h L σ ws H F Ed l w q
  simp only [chkS] at h
  rw [run_pass] at q
  split at h <;> try (exact absurd h Bool.false_ne_true)
  · exact toS ps_pass (q σ H ⟨F, ws, l, w, Ext.refl, fun _ _ => rfl⟩)
  · exact toS ps_doc (q σ H ⟨F, ws, l, w, Ext.refl, fun _ _ => rfl⟩)
theorem nev_SS : SS .nev := by
  intro X Z Γ EX G po M st h L σ ws H F Ed l w q
  rw [run_nev] at q
  exact q.elim
theorem ss_nil : SSs .nil := by
  intro X Z Γ EX G po M st h L σ ws H F Ed l w q
  cases st with
  | cons _ _ => simp [chkSs] at h
  | nil =>
    rw [runs_nil] at q
    exact toSs pss_nil (q σ H ⟨F, ws, l, w, Ext.refl, fun _ _ => rfl⟩)
theorem ss_cons {s : S} {ss : Ss} (ih : SS s) (ihs : SSs ss) : SSs (.cons s ss) := by
  intro X Z Γ EX G po M st h L σ ws H F Ed l w q
  cases st with
  | nil => simp [chkSs] at h
  | cons x xs =>
    simp only [chkSs, Bool.and_eq_true] at h
    rw [runs_cons] at q
    refine toSs (pss_cons psW pssW) (ih G po h.1 l w ?_)
    revert q
    generalize runS Z s L = r
    intro q
    cases r with
    | nx L1 =>
      intro σ' H' p
      obtain ⟨F', ws', l', w', x', m'⟩ := p
      have q : AfterS X.K X.mg EX H F ws.flatten M σ (runSs Z ss L1) Ed := q
      exact ihs G po h.2 l' w' (q.step x' (fun _ m => m) m')
    | rt d L1 => exact q
    | bk L1 => exact q
    | ct L1 => exact q
    | exn c x => exact q
    | bad => exact q
end
mutual
theorem soundS : ∀ c : S, SS c
  | .asg tg e => asg_S (soundE e)
  | .par is es => par_S (soundEs es)
  | .setx i path k e => setx_S (soundE e)
  | .ex e => ex_S (soundE e)
  | .app i path e => app_S (soundE e)
  | .ext i e => ext_S (soundE e)
  | .ifs c a b => ifs_S (soundE c) (soundSs a) (soundSs b)
  | .for_ tg s b => for_S (soundSrc s) (soundSs b)
  | .whl c b => whl_S (soundE c) (soundSs b)
  | .ret e => ret_S (soundE e)
  | .retn => retn_S
  | .brk => brk_S
  | .cont => cont_S
  | .pass => pass_S
  | .nev => nev_SS
theorem soundSs : ∀ c : Ss, SSs c
  | .nil => ss_nil
  | .cons s ss => ss_cons (soundS s) (soundSs ss)
end
end Q

namespace Q
open PySem L2 PySem.Spec

/-! ## functions -/
structure FnD where
  ps : List Str
  N : List Str
  md : List Bool
  body : Ss
  prim : Option Fn := none
abbrev Tab := List (Str × FnD)
def ioOuts : List Bool → Lcs → List (Option D)
  | true :: ms, o :: L => o :: ioOuts ms L
  | false :: ms, _ :: L => ioOuts ms L
  | _, _ => []
def retF (md : List Bool) : RS → Res (D × List (Option D))
  | .nx L => .ok (.non, ioOuts md L)
  | .rt d L => .ok (d, ioOuts md L)
  | .exn c x => .exn c x
  | _ => .bad
def slotsOf (N : List Str) (ds : List D) : Lcs := ds.map some ++ List.replicate (N.length - ds.length) none
def callF (V : EnvQ) (fn : FnD) (ds : List D) : Res (D × List (Option D)) :=
  match fn.prim with
  | some g => g ds
  | none => retF fn.md (runSs V fn.body (slotsOf fn.N ds))
def envN (T : Tab) (G : Str → Option D) (N : Nat) : Nat → EnvQ
  | 0 => { G := G, call := fun _ _ => .bad, md := fun f => match T.lookup f with | some fn => fn.md | none => [], ar := fun f => match T.lookup f with | some fn => fn.ps | none => [], N := N }
  | n + 1 => { G := G, call := fun f ds => match T.lookup f with | some fn => callF (envN T G N n) fn ds | none => .bad, md := fun f => match T.lookup f with | some fn => fn.md | none => [], ar := fun f => match T.lookup f with | some fn => fn.ps | none => [], N := N }
theorem envN_ar {T : Tab} {G : Str → Option D} {N n : Nat} {f : Str} {fn : FnD} (h : T.lookup f = some fn) : (envN T G N n).ar f = fn.ps := by cases n <;> simp [envN, h]
theorem envN_md {T : Tab} {G : Str → Option D} {N n : Nat} {f : Str} {fn : FnD} (h : T.lookup f = some fn) : (envN T G N n).md f = fn.md := by cases n <;> simp [envN, h]
theorem envN_G {T : Tab} {G : Str → Option D} {N n : Nat} : (envN T G N n).G = G := by cases n <;> rfl
theorem envN_call {T : Tab} {G : Str → Option D} {N n : Nat} {f : Str} {fn : FnD} (h : T.lookup f = some fn) (ds : List D) : (envN T G N (n + 1)).call f ds = callF (envN T G N n) fn ds := by simp [envN, h]

def mSlots (md : List Bool) : List Nat := (List.range md.length).filter fun i => (md[i]?).getD false
def gamF (fs : List Str) (bs gs : List Str) (kl : List (Str × List Str)) (N : List Str) (sc : Scope) : Gam :=
  { N := N, sn := sc.names, wr := (sc.names.filter fun p => decide (sc.names.lookup p.1 = some .local) || decide (sc.names.lookup p.1 = some .cell)).map (·.1), fs := fs, bs := bs, gs := gs, ks := kl }
def chkSc (N P : List Str) (sc : Scope) : Bool :=
  (match sc.kind with | .function => true | _ => false) && !sc.isCoroutine && !sc.isGenerator && decide N.Nodup && decide (N.take P.length = P) && (P.all fun x => decide (sc.names.lookup x = some .local) || decide (sc.names.lookup x = some .cell)) && (sc.names.all fun y => match y.2 with | .free => false | _ => true)
theorem chkSc_ok {N P : List Str} {sc : Scope} (h : chkSc N P sc = true) : FnScope N P sc := by
  simp only [chkSc, Bool.and_eq_true, Bool.not_eq_true', decide_eq_true_eq] at h
  obtain ⟨⟨⟨⟨⟨⟨h1, h2⟩, h3⟩, h4⟩, h5⟩, h6⟩, h7⟩ := h
  refine ⟨?_, h2, h3, h4, h5, fun x hx => ?_, fun y hy e => ?_⟩
  · split at h1
    · assumption
    · cases h1
  · have := List.all_eq_true.mp h6 x hx
    simp only [Bool.or_eq_true, decide_eq_true_eq] at this
    exact this
  · have := List.all_eq_true.mp h7 y hy
    rw [e] at this
    cases this
def chkFn (fs bs gs : List Str) (kl : List (Str × List Str)) (fn : FnD) (st : Stmt) : Bool :=
  chkSc fn.N fn.ps (defScope st) && decide (fn.md.length ≤ fn.ps.length) && chkSs (gamF fs bs gs kl fn.N (defScope st)) (mSlots fn.md) fn.body (defBody st)

section
variable {K : PySem.W.Frag} {H H' : Hp} {F F' : Addr → Prop}
theorem start_reps : ∀ {ds : List D} {vs : List V} {W : List Addr}, Reps K H F ds vs W → ∀ n : Nat, ∃ ws, LReps K H F (ds.map some ++ List.replicate n none) (vs.map some ++ List.replicate n none) ws ∧ ws.flatten = W
  | [], vs, W, r, n => by
    cases r
    have : ∀ n : Nat, LReps K H F (List.replicate n none) (List.replicate n none) (List.replicate n []) := fun n => by
      induction n with
      | zero => exact .nil
      | succ n ih => exact .skip ih
    refine ⟨List.replicate n [], by simpa using this n, by simp⟩
  | d :: ds, [], W, r, n => by cases r
  | d :: ds, v :: vs, W, r, n => by
    obtain ⟨W1, W2, rfl, r1, r2⟩ := Reps.cons_iff.mp r
    obtain ⟨ws, l, e⟩ := start_reps r2 n
    exact ⟨W1 :: ws, .cons r1 l, by simp [e]⟩
theorem outs_ok : ∀ {md : List Bool} {L : Lcs} {σ : L2.St} {ws : List (List Addr)} {vs : List V}, LReps K H F L σ ws → md.length ≤ vs.length → (∀ (i : Nat) (v : V), md[i]? = some true → vs[i]? = some v → σ[i]? = some (some v)) → ∃ W, OReps K H F (ioOuts md L) (ioPick md vs) W ∧ W.Sublist ws.flatten
  | [], L, σ, ws, vs, l, _, _ => by
    refine ⟨[], ?_, List.nil_sublist _⟩
    cases L <;> cases vs <;> exact .nil
  | b :: md, L, σ, ws, [], l, hl, _ => by simp at hl
  | b :: md, _, _, _, v :: vs, .nil, hl, h => by
    cases b with
    | true => have := h 0 v rfl rfl; simp at this
    | false =>
      -- no slots at all: then no other is changed
      have hn : ∀ (md : List Bool) (vs : List V), md.length ≤ vs.length → (∀ (i : Nat) (v : V), md[i]? = some true → vs[i]? = some v → ([] : L2.St)[i]? = some (some v)) → ioPick md vs = [] := by
        intro md
        induction md with
        | nil => intro vs _ _; cases vs <;> rfl
        | cons c md ih =>
          intro vs hl h
          cases vs with
          | nil => simp at hl
          | cons v vs =>
            cases c with
            | true => have := h 0 v rfl rfl; simp at this
            | false => exact ih vs (by simpa using hl) fun i v h1 h2 => by have := h (i + 1) v (by simpa using h1) (by simpa using h2); simp at this
      have e := hn md vs (by simpa using hl) fun i v h1 h2 => by have := h (i + 1) v (by simpa using h1) (by simpa using h2); simp at this
      refine ⟨[], ?_, List.nil_sublist _⟩
      show OReps K H F [] (ioPick md vs) []
      rw [e]; exact .nil
  | b :: md, _, _, _, v :: vs, .skip (L := L) (σ := σ) (ws := ws) (x := x) l, hl, h => by
    obtain ⟨W, o, sb⟩ := outs_ok (md := md) (vs := vs) l (by simpa using hl) fun i v h1 h2 => by have := h (i + 1) v (by simpa using h1) (by simpa using h2); simpa using this
    cases b with
    | true => exact ⟨W, .skip o, by simpa using sb⟩
    | false => exact ⟨W, o, by simpa using sb⟩
  | b :: md, _, _, _, v :: vs, .cons (d := d) (v := v') (L := L) (σ := σ) (W1 := W1) (ws := ws) r l, hl, h => by
    obtain ⟨W, o, sb⟩ := outs_ok (md := md) (vs := vs) l (by simpa using hl) fun i v h1 h2 => by have := h (i + 1) v (by simpa using h1) (by simpa using h2); simpa using this
    cases b with
    | true =>
      have e := h 0 v rfl rfl
      simp only [List.getElem?_cons_zero, Option.some.injEq] at e
      subst e
      exact ⟨W1 ++ W, .cons r o, by simpa using List.Sublist.append (List.Sublist.refl W1) sb⟩
    | false => exact ⟨W, o, by simpa using sb.trans (List.sublist_append_right W1 _)⟩
end

/-- what is known of a def -/
structure FnI (P : Program) (w : World) (K : PySem.W.Frag) (mg : Str → Option Value) (base : Heap) (kl : List (Str × List Str)) (f : Str) (ps : List Str) (a : Addr) (fd : FuncData) : Prop where
  mg : mg f = some (.ref a)
  kp : PySem.W.keepIn K (.ref a) = true
  bn : L2.Binds K fd ps []
  kw : ∀ ks, (f, ks) ∈ kl → KBn K fd ps 0 ks (fun us ws => permL (idxK ks ps) (us ++ ws)) (fun us ws => permL (idxK ks ps) (us ++ ws))

theorem fn_ok {P : Program} {w : World} {K : PySem.W.Frag} {mg : Str → Option Value} {base : Heap} {T : Tab} {G : Str → Option D} {N n k : Nat} {f : Str} {fn : FnD} {st : Stmt} {a : Addr} {fd : FuncData} {fs bs gs : List Str} {kl : List (Str × List Str)}
    (hT : T.lookup f = some fn) (hp : fn.prim = none) (F : FunD K f f (defArgs st) (defBody st) (defScope st) [] [] a fd) (hc : chkFn fs bs gs kl fn st = true)
    (hbs : ∀ x ∈ bs, mg x = none) (hgs : ∀ x ∈ gs, ∀ d, G x = some d → ∃ v u, mg x = some u ∧ RelV v u ∧ ∀ H F, Reps K H F [d] [v] [])
    (hfs : ∀ g ∈ fs, g ≠ ("__debug__" : Str) ∧ ∃ a fd, FnI P w K mg base kl g ((envN T G N n).ar g) a fd ∧ FnOk P w K mg base (L2.CX P w) k a fd ((envN T G N n).ar g) (SpF K mg (envN T G N n) g)) :
    FnOk P w K mg base (L2.CX P w) (k + 1) a fd fn.ps (SpF K mg (envN T G N (n + 1)) f) := by
  simp only [chkFn, Bool.and_eq_true, decide_eq_true_eq] at hc
  obtain ⟨⟨hsc, hmd⟩, hss⟩ := hc
  have S := chkSc_ok hsc
  refine F.ok S (fun vs H Q E h => ?_) (fun cdv A outer s H vs Q E hr h => ⟨_, pssW, ?_⟩)
  · obtain ⟨ds, F0, W, hl, _⟩ := h
    rw [hl, envN_ar hT]
  · obtain ⟨ds, F0, W, hl, r, wf, io, hres⟩ := h
    rw [envN_ar hT] at hl
    rw [envN_md hT] at io
    rw [envN_call hT] at hres
    have hdl := r.length
    obtain ⟨ws, l, ew⟩ := start_reps r (fn.N.length - ds.length)
    have es : vs.map some ++ List.replicate (fn.N.length - ds.length) none = L2.start fn.N vs := by unfold L2.start; rw [hdl]
    rw [es] at l
    subst ew
    have po : PassesOwn (model (cxOf (L2.CX P w) P w K mg base fn.N f (defScope st) a cdv A outer s H E).prog (cxOf (L2.CX P w) P w K mg base fn.N f (defScope st) a cdv A outer s H E).w) (cxOf (L2.CX P w) P w K mg base fn.N f (defScope st) a cdv A outer s H E).A (cxOf (L2.CX P w) P w K mg base fn.N f (defScope st) a cdv A outer s H E).env (cxOf (L2.CX P w) P w K mg base fn.N f (defScope st) a cdv A outer s H E).xe := passes_of rfl
    have tk : Takes (cxOf (L2.CX P w) P w K mg base fn.N f (defScope st) a cdv A outer s H E) (fun cls d _ H => E cls d H) := takes_of rfl rfl rfl rfl
    have GG : Good (cxOf (L2.CX P w) P w K mg base fn.N f (defScope st) a cdv A outer s H E) (envN T G N n) (gamF fs bs gs kl fn.N (defScope st)) E := by
      refine ⟨rfl, S.kind, rfl, S.nd, rfl, fun x hx => ?_, hbs, fun x hx d hd => hgs x hx d (by rw [envN_G] at hd; exact hd), hr.units, fun g hg => ?_⟩
      · obtain ⟨p, hp, rfl⟩ := List.mem_map.mp hx
        have := (List.mem_filter.mp hp).2
        simp only [Bool.or_eq_true, decide_eq_true_eq] at this
        exact ⟨this, .inl rfl⟩
      · obtain ⟨hne, a', fd', i, fo⟩ := hfs g hg
        exact ⟨⟨a', fd', k, i.mg, i.kp, fo, hr, i.bn, i.kw⟩, passes_call tk fun _ _ _ _ h => h, hne⟩
    refine soundSs fn.body GG po hss l wf ?_
    -- the outs
    have outs : ∀ {L' : Lcs} {σ' : L2.St} {H' : Hp} {F' : Addr → Prop} {ws' : List (List Addr)}, LReps K H' F' L' σ' ws' → (∀ i ∈ mSlots fn.md, σ'[i]? = (L2.start fn.N vs)[i]?) → ∃ W2, OReps K H' F' (ioOuts fn.md L') (ioPick fn.md vs) W2 ∧ W2.Sublist ws'.flatten := by
      intro L' σ' H' F' ws' l' m
      refine outs_ok l' (by omega) fun i v h1 h2 => ?_
      have hi : i ∈ mSlots fn.md := by
        refine List.mem_filter.mpr ⟨List.mem_range.mpr (List.getElem?_eq_some_iff.mp h1).1, by rw [h1]; rfl⟩
      rw [m i hi]
      unfold L2.start
      rw [List.getElem?_append_left (by rw [List.length_map]; exact (List.getElem?_eq_some_iff.mp h2).1), List.getElem?_map, h2]; rfl
    have md' : (envN T G N (n + 1)).md f = fn.md := envN_md hT
    rw [md'] at hres
    unfold callF at hres
    rw [hp] at hres
    simp only at hres
    show AfterS K mg E H F0 ws.flatten (mSlots fn.md) (L2.start fn.N vs) (runSs (envN T G N n) fn.body (slotsOf fn.N ds)) _
    revert hres
    generalize runSs (envN T G N n) fn.body (slotsOf fn.N ds) = rr
    intro hres
    cases rr with
    | bad => exact hres
    | bk L' => exact hres.elim
    | ct L' => exact hres.elim
    | exn c x => exact hres
    | nx L' =>
      intro σ' H' p
      obtain ⟨F', ws', l', w', x', m'⟩ := p
      obtain ⟨W2, o, sb⟩ := outs l' m'
      exact hres .non H' F' [] W2 (.non .nil) o (by simpa using w'.sub sb) (by simpa using x'.sub fun c m => sb.subset m)
    | rt d L' =>
      intro v σ' H' p
      obtain ⟨F', W1, ws', rd, l', w', x', m'⟩ := p
      obtain ⟨W2, o, sb⟩ := outs l' m'
      exact hres v H' F' W1 W2 rd o (w'.sub (List.Sublist.append (List.Sublist.refl _) sb)) (x'.sub fun c m => (List.Sublist.append (List.Sublist.refl W1) sb).subset m)

/-- the whole table -/
structure TabI (P : Program) (w : World) (K : PySem.W.Frag) (mg : Str → Option Value) (base : Heap) (T : Tab) (G : Str → Option D) (bs gs : List Str) (kl : List (Str × List Str)) (c : Nat) : Prop where
  hbs : ∀ x ∈ bs, mg x = none
  hgs : ∀ x ∈ gs, ∀ d, G x = some d → ∃ v u, mg x = some u ∧ RelV v u ∧ ∀ H F, Reps K H F [d] [v] []
  dbg : T.lookup ("__debug__" : Str) = none
  fns : ∀ f fn, T.lookup f = some fn → ∃ a fd, FnI P w K mg base kl f fn.ps a fd ∧
    match fn.prim with
    | none => ∃ st, FunD K f f (defArgs st) (defBody st) (defScope st) [] [] a fd ∧ chkFn (T.map (·.1)) bs gs kl fn st = true
    | some g => ∀ Z : EnvQ, Z.ar f = fn.ps → Z.md f = fn.md → (∀ ds, Z.call f ds = g ds) → FnOk P w K mg base (L2.CX P w) (c + 1) a fd fn.ps (SpF K mg Z f)
theorem lookup_key {α : Type} : ∀ {l : List (Str × α)} {x : Str}, x ∈ l.map (·.1) → ∃ y, l.lookup x = some y
  | (k, v) :: l, x, h => by
    rw [List.lookup_cons]
    cases hb : x == k with
    | true => exact ⟨_, rfl⟩
    | false =>
      rcases List.mem_cons.mp h with e | h
      · have e : x = k := e
        subst e; simp at hb
      · exact lookup_key h
theorem tab_ok {P : Program} {w : World} {K : PySem.W.Frag} {mg : Str → Option Value} {base : Heap} {T : Tab} {G : Str → Option D} {N c : Nat} {bs gs : List Str} {kl : List (Str × List Str)} (I : TabI P w K mg base T G bs gs kl c) :
    ∀ (n : Nat) (f : Str) (fn : FnD), T.lookup f = some fn → ∃ a fd, FnI P w K mg base kl f fn.ps a fd ∧ FnOk P w K mg base (L2.CX P w) (n + c + 1) a fd fn.ps (SpF K mg (envN T G N n) f)
  | 0, f, fn, h => by
    obtain ⟨a, fd, i, q⟩ := I.fns f fn h
    refine ⟨a, fd, i, ?_⟩
    have no : ∀ vs H Q E, ¬ SpF K mg (envN T G N 0) f vs H Q E := fun vs H Q E ⟨ds, F, W, _, _, _, _, z⟩ => z
    cases hp : fn.prim with
    | none =>
      rw [hp] at q
      obtain ⟨st, F, hc⟩ := q
      simp only [chkFn, Bool.and_eq_true, decide_eq_true_eq] at hc
      exact F.ok (chkSc_ok hc.1.1) (fun vs H Q E z => (no _ _ _ _ z).elim) fun cdv A outer s H vs Q E hr z => (no _ _ _ _ z).elim
    | some g =>
      rw [hp] at q
      have := q { G := G, call := fun _ => g, md := (envN T G N 0).md, ar := (envN T G N 0).ar, N := N } (show (envN T G N 0).ar f = fn.ps from envN_ar h) (show (envN T G N 0).md f = fn.md from envN_md h) fun _ => rfl
      rw [Nat.zero_add]
      exact this.imp fun vs H Q E z => (no _ _ _ _ z).elim
  | n + 1, f, fn, h => by
    obtain ⟨a, fd, i, q⟩ := I.fns f fn h
    refine ⟨a, fd, i, ?_⟩
    cases hp : fn.prim with
    | none =>
      rw [hp] at q
      obtain ⟨st, F, hc⟩ := q
      have e : n + 1 + c + 1 = (n + c + 1) + 1 := by omega
      rw [e]
      refine fn_ok h hp F hc I.hbs I.hgs fun g hg => ?_
      obtain ⟨fn', h'⟩ := lookup_key hg
      obtain ⟨a', fd', i', o'⟩ := tab_ok I n g fn' h'
      rw [envN_ar h']
      refine ⟨fun z => ?_, a', fd', i', o'⟩
      rw [z, I.dbg] at h'; cases h'
    | some g =>
      rw [hp] at q
      have := q (envN T G N (n + 1)) (envN_ar h) (envN_md h) fun ds => by rw [envN_call h]; unfold callF; rw [hp]
      exact this.mono (by omega)
end Q

namespace Q
open PySem L2 PySem.Spec

/-! ## what spoils a thing -/
def late : D := .str (Str.ofString "late")
def spo : Nat → D → Bool
  | 0, _ => false
  | k + 1, d => match d with
    | .non | .bl _ | .int _ | .str _ => true
    | .tup ds => decide (ds.length ≤ 1000000) && ds.all (spo k)
    | .lst true ds => decide (ds.length < 1000000) && ds.all (spo k)
    | _ => false
def spoil : Nat → D → D
  | 0, d => d
  | k + 1, d => match d with
    | .tup ds => .tup (ds.map (spoil k))
    | .lst true ds => .lst true (ds.map (spoil k) ++ [late])
    | d => d
def spoRun (k : Nat) : Fn := fun ds => match ds with
  | [d] => if spo k d then .ok (.non, [some (spoil k d)]) else .bad
  | _ => .bad
def nSpo : Str := Str.ofString "_law_spoilt"
def sp1 : E := .p (.o1 (.isi ["list", "tuple"]) (.var 0))
def sp2 : S := .ifs (.p (.o1 (.isi ["list"]) (.var 0))) (.cons (.app 0 [] (.p (.str (Str.ofString "late")))) .nil) .nil
/-- the text of it -/
def chkSpo (Γ : Gam) (body : List Stmt) : Bool := match body with
  | [.If t1 [.For tg it [.Expr (.Call f [y] [] _) _] [] _] [] _, st2] =>
    chkE Γ sp1 t1 && chkTg Γ (.nm 1) tg && chkP Γ (.var 0) it && fnOk Γ nSpo f && chkP Γ (.var 1) y && chkS Γ [0] sp2 st2
  | _ => false
section
variable {X : Cx} {Z : EnvQ} {Γ : Gam} {EX : XK} {σ : L2.St} {H H1 : Hp} {F F1 : Addr → Prop} {W W1 Wt : List Addr}

theorem nameOf {Γ : Gam} {i : Nat} {e : Expr} (h : chkP Γ (.var i) e = true) : ∃ x p, e = .Name x p ∧ varOk Γ i x = true := by
  simp only [chkP] at h
  split at h
  · exact ⟨_, _, rfl, h⟩
  · exact absurd h Bool.false_ne_true
theorem aside0 (m0 : ∀ a ∈ Wt, H a ≠ none) (w : Wf H F (Wt ++ W)) (x : Ext H F W H1 F1 W1) (w1 : Wf H1 F1 W1) : Wf H1 F1 (Wt ++ W1) ∧ Ext H F (Wt ++ W) H1 F1 (Wt ++ W1) := by
  have nd := List.nodup_append.mp w.nd
  have dis : ∀ a ∈ Wt, a ∉ W := fun a h z => nd.2.2 a h a z rfl
  refine ⟨⟨?_, fun a h => ?_, w1.tr⟩, ⟨fun a o h n => x.keep a o h fun z => n (List.mem_append_right _ z), fun a h => ?_, x.mono, fun a h => ?_, x.live⟩⟩
  · refine List.nodup_append.mpr ⟨nd.1, w1.nd, fun a h b h' e => ?_⟩
    subst e
    rcases x.w a h' with z | z
    · exact dis a h z
    · exact m0 a h z
  · rcases List.mem_append.mp h with h | h
    · intro z
      rcases x.f a z with z | z | z
      · exact w.dj a (List.mem_append_left _ h) z
      · exact dis a h z
      · exact m0 a h z
    · exact w1.dj a h
  · rcases List.mem_append.mp h with h | h
    · exact .inl (List.mem_append_left _ h)
    · exact (x.w a h).elim (fun z => .inl (List.mem_append_right _ z)) .inr
  · rcases x.f a h with z | z | z
    · exact .inl z
    · exact .inr (.inl (List.mem_append_right _ z))
    · exact .inr (.inr z)

/-- ahead of turn i -/
def SpoInv (K : PySem.W.Frag) (H0 : Hp) (F0 : Addr → Prop) (W : List Addr) (v : V) (ok : Hp → Prop) (W0 : List Addr) (ds : List D) (us : List V) (k : Nat) (i : Nat) (σ : L2.St) (H : Hp) : Prop :=
  ∃ (F : Addr → Prop) (Wr : List Addr), σ[0]? = some (some v) ∧ σ.length = 2 ∧ Reps K H F ((ds.take i).map (spoil k) ++ ds.drop i) us Wr ∧ Wf H F (W0 ++ Wr) ∧ Ext H0 F0 W H F (W0 ++ Wr) ∧ ok H ∧ ∀ a ∈ W0, H a ≠ none
theorem take_set {α : Type} {f : α → α} : ∀ {l : List α} {i : Nat} {d : α}, l[i]? = some d → ((l.take i).map f ++ l.drop i).set i (f d) = (l.take (i + 1)).map f ++ l.drop (i + 1)
  | [], i, d, h => by simp at h
  | a :: l, 0, d, h => by simp at h; subst h; simp
  | a :: l, i + 1, d, h => by simpa using take_set (f := f) (l := l) (i := i) (by simpa using h)
theorem take_at {α : Type} {f : α → α} : ∀ {l : List α} {i : Nat} {d : α}, l[i]? = some d → ((l.take i).map f ++ l.drop i)[i]? = some d
  | [], i, d, h => by simp at h
  | a :: l, 0, d, h => by simpa using h
  | a :: l, i + 1, d, h => by simpa using take_at (f := f) (l := l) (i := i) (by simpa using h)

theorem spo_loop (G : Good X Z Γ EX) (po : PassesOwn (model X.prog X.w) X.A X.env X.xe) {tg it f y : Expr} {cpos p1 pos : Pos} {k : Nat} (htg : chkTg Γ (.nm 1) tg = true) (hit : chkP Γ (.var 0) it = true) (hf : fnOk Γ nSpo f = true) (hy : chkP Γ (.var 1) y = true)
    (zc : ∀ ds, Z.call nSpo ds = spoRun k ds) (za : Z.ar nSpo = [Str.ofString "thing"]) (zm : Z.md nSpo = [true]) {a : Addr} {ds : List D} {us : List V} {Wr W0 : List Addr} {ok : Hp → Prop} {Ed : Ends}
    (hσ : σ[0]? = some (some (.ref a))) (hl : σ.length = 2) (r : Reps X.K H F ds us Wr) (w : Wf H F (W0 ++ Wr)) (m0 : ∀ a ∈ W0, H a ≠ none) (h0 : ok H) (hall : ds.all (spo k) = true)
    (hok : (∀ H, ok H → SqL X.K H a us) ∨ ∀ H, ok H → SqT X.K H a us)
    (step : ∀ H1 F1 W1 H2 F2 W2, Ext H1 F1 W1 H2 F2 W2 → (∀ c ∈ W1, IsMut H1 c) → (∀ c ∈ W0, c ∉ W1) → ok H1 → ok H2)
    (q : ∀ σ' H', (∃ F' Wr', σ'[0]? = some (some (.ref a)) ∧ σ'.length = 2 ∧ Reps X.K H' F' (ds.map (spoil k)) us Wr' ∧ Wf H' F' (W0 ++ Wr') ∧ Ext H F (W0 ++ Wr) H' F' (W0 ++ Wr') ∧ ok H') → Ed.nx σ' H') :
    tsW X (.For tg it [.Expr (.Call f [y] [] cpos) p1] [] pos) Ed σ H := by
  obtain ⟨xi, pi, rfl, hxi⟩ := nameOf hit
  obtain ⟨xy, py, rfl, hxy⟩ := nameOf hy
  obtain ⟨pf, rfl, hg, hm⟩ := fnOk_out hf
  obtain ⟨g1, g2, g3⟩ := G.gl hg
  obtain ⟨⟨ac, fd, kk, m1, m2, m3, m4, m5, m6⟩, pass, _⟩ := G.ca nSpo hm
  have nm : nmOk Γ 1 tg = true := by simpa only [chkTg] using htg
  have hlen := r.length
  have turn : ∀ (i : Nat) (x : V) (σi : L2.St) (Hi : Hp), i < us.length → us[i]? = some x → SpoInv X.K H F (W0 ++ Wr) (.ref a) ok W0 ds us k i σi Hi →
      tgW X tg x σi Hi fun σ2 H2 => tssW X [.Expr (.Call (.Name nSpo pf) [.Name xy py] [] cpos) p1] { Ed with nx := SpoInv X.K H F (W0 ++ Wr) (.ref a) ok W0 ds us k (i + 1), ct := SpoInv X.K H F (W0 ++ Wr) (.ref a) ok W0 ds us k (i + 1), bk := Ed.nx } σ2 H2 := by
    intro i x σi Hi hi hx ⟨Fi, Wi, s0, sl, ri, wi, xi, oki, mi⟩
    refine toG (nm_pg G nm) ?_
    show tssW X _ _ (σi.set 1 (some x)) Hi
    refine toSs (pss_one (ps_expr (pe_call (dvs := []) m3 m4 g1 m1 m2 m5 .nil pass (pa_cons peW pa_nil (starEach_of rfl)) g2 (starEach_of rfl) rfl) rfl)) ?_
    refine toW (G.var hxy) ⟨x, by rw [List.getElem?_set_self (by omega)], ?_⟩
    have hd : ∃ d, ds[i]? = some d := ⟨ds[i]'(by omega), by simp [show i < ds.length by omega]⟩
    obtain ⟨d, hd⟩ := hd
    obtain ⟨x', Wa, Wd, Wb, e1, rfl, ra, rd, rb⟩ := ri.split3 (take_at (f := spoil k) hd)
    rw [hx] at e1; cases e1
    have hsp : spo k d = true := List.all_eq_true.mp hall d (List.mem_of_getElem? hd)
    have wp : Wf Hi Fi ((W0 ++ (Wa ++ Wb)) ++ Wd) := wi.perm (by
      refine List.perm_iff_count.mpr fun c => ?_
      simp only [List.count_append]; omega)
    refine ⟨[d], Fi, Wd, by rw [za]; rfl, rd, wp.right, by rw [zm]; rfl, ?_⟩
    rw [zc]
    simp only [spoRun, hsp, if_true]
    intro v H' F' W1 W2 rv ro wf' x2
    rw [zm] at ro
    have e1 : W1 = [] := rv.noOwn (by rfl)
    subst e1
    have ro' : OReps X.K H' F' [some (spoil k d)] [x] W2 := ro
    have rs : Reps X.K H' F' [spoil k d] [x] W2 := by
      cases ro' with
      | cons r1 r2 => cases r2; simpa using r1
    have m0' : ∀ c ∈ W0 ++ (Wa ++ Wb), Hi c ≠ none := fun c m => by
      rcases List.mem_append.mp m with m | m
      · exact mi c m
      · rcases List.mem_append.mp m with m | m
        · exact (ra.muts c m).some
        · exact (rb.muts c m).some
    obtain ⟨w2, x3⟩ := aside0 m0' wp (by simpa using x2) (by simpa using wf')
    have nd := List.nodup_append.mp wp.nd
    have fr : ∀ {es : List D} {vs : List V} {Wx : List Addr}, Reps X.K Hi Fi es vs Wx → (∀ c ∈ Wx, c ∈ Wa ++ Wb) → Reps X.K H' F' es vs Wx := fun rx sub =>
      rx.frame (B := Wd) x2.keep rd.muts (fun c m z => nd.2.2 c (List.mem_append_right _ (sub c m)) c z rfl) (fun c f z => wp.right.dj c z f) x2.mono
    have rj := Reps.join3 (fr ra fun c m => List.mem_append_left _ m) rs (fr rb fun c m => List.mem_append_right _ m) (by have := ri.length; omega) ri.length
    rw [take_set hd] at rj
    have ev : us.set i x = us := by
      obtain ⟨h2, h3⟩ := List.getElem?_eq_some_iff.mp hx
      rw [← h3]; exact List.set_getElem_self h2
    rw [ev] at rj
    have pm : ((W0 ++ (Wa ++ Wb)) ++ W2).Perm (W0 ++ (Wa ++ (W2 ++ Wb))) := by
      refine List.perm_iff_count.mpr fun c => ?_
      simp only [List.count_append]; omega
    refine ⟨F', Wa ++ (W2 ++ Wb), ?_, by rw [List.length_set]; exact sl, rj, w2.perm pm, ?_, ?_, fun c m => x2.live c (mi c m)⟩
    · rw [List.getElem?_set_ne (by decide)]; exact s0
    · have x4 : Ext Hi Fi (W0 ++ (Wa ++ (Wd ++ Wb))) H' F' (W0 ++ (Wa ++ (W2 ++ Wb))) := by
        refine (x3.wid fun c m => ?_).sub fun c m => pm.mem_iff.mpr m
        simp only [List.mem_append] at m ⊢
        rcases m with (m | m | m) | m <;> simp [m]
      exact xi.trans x4
    · exact step _ _ _ _ _ _ x2 rd.muts (fun c m z => nd.2.2 c (List.mem_append_left _ m) c z rfl) oki
  have start : SpoInv X.K H F (W0 ++ Wr) (.ref a) ok W0 ds us k 0 σ H := ⟨F, Wr, hσ, hl, by simpa using r, w, Ext.refl, h0, m0⟩
  have fin : ∀ σn Hn, SpoInv X.K H F (W0 ++ Wr) (.ref a) ok W0 ds us k us.length σn Hn → Ed.nx σn Hn := fun σn Hn ⟨Fn, Wn, s0, sl, rn, wn, xn, okn, _⟩ => q σn Hn ⟨Fn, Wn, s0, sl, by simpa [← hlen] using rn, wn, xn, okn⟩
  refine toS (ps_for po G.calm (pi_seq peW) pgW pssW (fun _ => rfl)) (toW (G.var hxi) ⟨.ref a, hσ, a, us, rfl, ?_⟩)
  rcases hok with hok | hok
  · refine .inl ⟨hok H h0, for_it walk_list (SpoInv X.K H F (W0 ++ Wr) (.ref a) ok W0 ds us k) start (fun i σi Hi _ p => ?_) (fun i x σi Hi H' hi p y => ?_) fin⟩
    · obtain ⟨_, _, _, _, _, _, _, z, _⟩ := p; exact hok _ z
    · obtain ⟨rfl, hx⟩ := y
      exact turn i x σi _ hi hx p
  · refine .inr ⟨hok H h0, for_it walk_tup (SpoInv X.K H F (W0 ++ Wr) (.ref a) ok W0 ds us k) start (fun i σi Hi _ p => ?_) (fun i x σi Hi H' hi p y => ?_) fin⟩
    · obtain ⟨_, _, _, _, _, _, _, z, _⟩ := p; exact hok _ z
    · obtain ⟨rfl, hx⟩ := y
      exact turn i x σi _ hi hx p

theorem sp2_lst {Z : EnvQ} {es : List D} {o : Option D} (h : es.length < 1000000) : runS Z sp2 [some (.lst true es), o] = .nx [some (.lst true (es ++ [late])), o] := by
  unfold sp2
  rw [run_ifs, rdW_p]
  have e : pur Z.G (.o1 (.isi ["list"]) (.var 0)) [some (.lst true es), o] = some (.bl true) := rfl
  rw [e]
  show runSs Z (.cons (.app 0 [] (.p (.str (Str.ofString "late")))) .nil) [some (.lst true es), o] = _
  rw [runs_cons, run_app0]
  have e2 : lstAt [some (D.lst true es), o] 0 = some () := rfl
  rw [e2]
  show ((den Z (.p (.str (Str.ofString "late"))) [some (.lst true es), o]).seq fun r => RS.of (appRun Z.G 0 [] r.1 r.2)).seq _ = _
  rw [den_p]
  have e3 : keepP Z.G (.str (Str.ofString "late")) [some (D.lst true es), o] = .ok (late, [some (.lst true es), o]) := rfl
  rw [e3]
  show (RS.of (appRun Z.G 0 [] late [some (.lst true es), o])).seq _ = _
  have e4 : appRun Z.G 0 [] late [some (D.lst true es), o] = some [some (.lst true (es ++ [late])), o] := by
    simp [appRun, pathInts, updPath, appF, h]
  rw [e4]
  show runSs Z .nil _ = _
  rw [runs_nil]
theorem sp2_no {Z : EnvQ} {d : D} {o : Option D} (h : d.isT "list" = false) : runS Z sp2 [some d, o] = .nx [some d, o] := by
  unfold sp2
  rw [run_ifs, rdW_p]
  have e : pur Z.G (.o1 (.isi ["list"]) (.var 0)) [some d, o] = some (.bl false) := by
    show some (D.bl (["list"].any d.isT)) = _
    simp [h]
  rw [e]
  show runSs Z .nil [some d, o] = _
  rw [runs_nil]
theorem SqT.fr {K : PySem.W.Frag} {H2 : Hp} {F2 : Addr → Prop} {W2 : List Addr} {a : Addr} {us : List V} (s : SqT K H a us) (x : Ext H F W H2 F2 W2) (m : ∀ c ∈ W, IsMut H c) : SqT K H2 a us := SqT.frame s x.keep m

theorem spo_body (G : Good X Z Γ EX) (po : PassesOwn (model X.prog X.w) X.A X.env X.xe) {body : List Stmt} {k : Nat} (hc : chkSpo Γ body = true)
    (zc : ∀ ds, Z.call nSpo ds = spoRun k ds) (za : Z.ar nSpo = [Str.ofString "thing"]) (zm : Z.md nSpo = [true]) {d : D} {v : V} (r : Reps X.K H F [d] [v] W) (w : Wf H F W) (hsp : spo (k + 1) d = true) {Ed : Ends}
    (q : ∀ σ' H' F' W2, Reps X.K H' F' [spoil (k + 1) d] [v] W2 → Wf H' F' W2 → Ext H F W H' F' W2 → Ed.nx σ' H') :
    tssW X body Ed [some v, none] H := by
  unfold chkSpo at hc
  split at hc <;> try (exact absurd hc Bool.false_ne_true)
  rename_i t1 tg it f y cpos p1 pos pos2 st2
  simp only [Bool.and_eq_true] at hc
  obtain ⟨⟨⟨⟨⟨ht1, htg⟩, hit⟩, hf⟩, hy⟩, hst2⟩ := hc
  have l : LReps X.K H F [some d, none] [some v, none] [W, []] := .cons r (.skip .nil)
  have wl : Wf H F ([W, []] : List (List Addr)).flatten := by simpa using w
  -- the second statement
  have two : ∀ {σ1 : L2.St} {H1 : Hp} {F1 : Addr → Prop} {W1 : List Addr} {d1 : D}, σ1[0]? = some (some v) → σ1.length = 2 → Reps X.K H1 F1 [d1] [v] W1 → Wf H1 F1 W1 → Ext H F W H1 F1 W1 → runS Z sp2 [some d1, none] = .nx [some (spoil (k + 1) d), none] → tssW X [st2] Ed σ1 H1 := by
    intro σ1 H1 F1 W1 d1 s0 sl r1 w1 x1 e
    obtain ⟨o, rfl⟩ : ∃ o, σ1 = [some v, o] := by
      cases σ1 with
      | nil => simp at sl
      | cons a σ1 => cases σ1 with
        | nil => simp at sl
        | cons b σ1 => cases σ1 with
          | nil => simp at s0; subst s0; exact ⟨b, rfl⟩
          | cons _ _ => simp at sl
    have l1 : LReps X.K H1 F1 [some d1, none] [some v, o] [W1, []] := .cons r1 (.skip .nil)
    refine toSs (pss_one psW) (soundS sp2 G po hst2 l1 (by simpa using w1) ?_)
    rw [e]
    intro σ' H' p
    obtain ⟨F', ws', l', w', x', m'⟩ := p
    obtain ⟨v', e1, r', hi⟩ := l'.get (i := 0) rfl
    have : σ'[0]? = some (some v) := by rw [m' 0 List.mem_cons_self]; rfl
    rw [this] at e1; cases e1
    have sb : (ws'.getD 0 []).Sublist ws'.flatten := by
      cases ws' with
      | nil => simp
      | cons a b => simpa using List.sublist_append_left a b.flatten
    exact q σ' H' F' _ r' (w'.sub sb) ((x1.trans (by simpa using x')).sub fun c m => sb.subset m)
  -- the first test
  refine toSs (pss_cons (ps_if ptW pssW pss_nil) pssW) ?_
  have gt := ((soundE sp1) G ht1 l wl).2 rfl
  refine gt _ ?_
  have et : tst Z sp1 [some d, none] = .ok (["list", "tuple"].any d.isT, [some d, none]) := by
    unfold tst sp1
    rw [rdW_p]
    rfl
  rw [et]
  intro H1 p
  obtain ⟨F1, ws1, l1, w1, x1⟩ := p
  obtain ⟨v', e1, r1, hi⟩ := l1.get (i := 0) rfl
  have e1 : v' = v := by simp at e1; exact e1.symm
  subst e1
  have sb : (ws1.getD 0 []).Sublist ws1.flatten := by
    cases ws1 with
    | nil => simp
    | cons a b => simpa using List.sublist_append_left a b.flatten
  have w1' : Wf H1 F1 (ws1.getD 0 []) := w1.sub sb
  have x1' : Ext H F W H1 F1 (ws1.getD 0 []) := (by simpa using x1 : Ext H F W H1 F1 ws1.flatten).sub fun c m => sb.subset m
  show if (["list", "tuple"].any d.isT) = true then tssW X _ { Ed with nx := tssW X [st2] Ed } [some v', none] H1 else tssW X [st2] Ed [some v', none] H1
  cases d with
  | non => exact two rfl rfl r1 w1' x1' (sp2_no rfl)
  | bl b => exact two rfl rfl r1 w1' x1' (sp2_no rfl)
  | int i => exact two rfl rfl r1 w1' x1' (sp2_no rfl)
  | str s => exact two rfl rfl r1 w1' x1' (sp2_no rfl)
  | dic o ks ds => simp [spo] at hsp
  | frz ds => simp [spo] at hsp
  | tup ds =>
    simp only [spo, Bool.and_eq_true, decide_eq_true_eq] at hsp
    obtain ⟨a, us, rfl, s, re⟩ := r1.tupI
    rw [if_pos (by rfl)]
    refine toSs (pss_one psW) (spo_loop (W0 := []) (ok := fun H => SqT X.K H a us) G po htg hit hf hy zc za zm (σ := [some (.ref a), none]) rfl rfl re (by simpa using w1') (fun c m => nomatch m) s hsp.2 (.inr fun _ h => h) (fun Ha Fa Wa Hb Fb Wb x m _ h => SqT.fr h x m) fun σ' H' ⟨F', Wr', s0, sl, r', w', x', o'⟩ => ?_)
    refine two s0 sl (d1 := .tup (ds.map (spoil k))) (W1 := Wr') ?_ (by simpa using w') (x1'.trans (by simpa using x')) (sp2_no rfl)
    have := Reps.tup (W2 := []) o' r' .nil
    simpa using this
  | lst b ds =>
    cases b with
    | false => simp [spo] at hsp
    | true =>
      simp only [spo, Bool.and_eq_true, decide_eq_true_eq] at hsp
      obtain ⟨a, us, We, rfl, s, re, _, e2, _⟩ := r1.lstI
      have e2 := e2 rfl
      rw [e2] at w1' x1'
      rw [if_pos (by rfl)]
      have ma : ∀ c ∈ [a], H1 c ≠ none := fun c m => by
        have hca : c = a := by simpa using m
        rw [hca, s]; exact fun z => nomatch z
      refine toSs (pss_one psW) (spo_loop (W0 := [a]) (ok := fun H => H a = some (.lst us)) G po htg hit hf hy zc za zm (σ := [some (.ref a), none]) rfl rfl re w1' ma s hsp.2 (.inl fun _ h => SqL.of h) (fun Ha Fa Wa Hb Fb Wb x m n h => x.keep a _ h (n a List.mem_cons_self)) fun σ' H' ⟨F', Wr', s0, sl, r', w', x', o'⟩ => ?_)
      refine two s0 sl (d1 := .lst true (ds.map (spoil k))) (W1 := a :: Wr') ?_ w' (x1'.trans x') (sp2_lst (by rw [List.length_map]; exact hsp.1))
      have := Reps.own (W2 := []) o' r' .nil
      simpa using this

/-- the spoiling def keeps its promise, k deep -/
theorem spo_ok {P : Program} {w : World} {K : PySem.W.Frag} {mg : Str → Option Value} {base : Heap} {st : Stmt} {a : Addr} {fd : FuncData} {bs : List Str} {kl : List (Str × List Str)}
    (F : FunD K nSpo nSpo (defArgs st) (defBody st) (defScope st) [] [] a fd) (i : FnI P w K mg base kl nSpo [Str.ofString "thing"] a fd) (hsc : chkSc [Str.ofString "thing", Str.ofString "part"] [Str.ofString "thing"] (defScope st) = true)
    (hb : chkSpo (gamF [nSpo] bs [] kl [Str.ofString "thing", Str.ofString "part"] (defScope st)) (defBody st) = true) (hbs : ∀ x ∈ bs, mg x = none) :
    ∀ (k : Nat) (Z : EnvQ), Z.ar nSpo = [Str.ofString "thing"] → Z.md nSpo = [true] → (∀ ds, Z.call nSpo ds = spoRun k ds) → FnOk P w K mg base (L2.CX P w) (k + 1) a fd [Str.ofString "thing"] (SpF K mg Z nSpo)
  | 0, Z, za, zm, zc => by
    have no : ∀ vs H Q E, ¬ SpF K mg Z nSpo vs H Q E := fun vs H Q E ⟨ds, F, W, _, _, _, _, z⟩ => by
      rw [zc] at z
      unfold spoRun at z
      split at z
      · rename_i hh
        split at hh <;> first | cases hh | (simp [spo] at hh)
      · rename_i hh
        split at hh <;> first | cases hh | (simp [spo] at hh)
      · exact z
    exact F.ok (chkSc_ok hsc) (fun vs H Q E z => (no _ _ _ _ z).elim) fun cdv A outer s H vs Q E hr z => (no _ _ _ _ z).elim
  | k + 1, Z, za, zm, zc => by
    let Z' : EnvQ := { G := fun _ => none, call := fun _ => spoRun k, md := fun _ => [true], ar := fun _ => [Str.ofString "thing"], N := 0 }
    have ih := spo_ok F i hsc hb hbs k Z' rfl rfl fun _ => rfl
    have S := chkSc_ok hsc
    refine F.ok S (fun vs H Q E h => ?_) (fun cdv A outer s H vs Q E hr h => ⟨_, pssW, ?_⟩)
    · obtain ⟨ds, F0, W, hl, _⟩ := h
      rw [hl, za]
    · obtain ⟨ds, F0, W, hl, r, wf, io, hres⟩ := h
      rw [za] at hl
      rw [zm] at hres
      have hdl := r.length
      obtain ⟨v, rfl⟩ : ∃ v, vs = [v] := by
        cases vs with
        | nil => simp at hl
        | cons v vs => cases vs with
          | nil => exact ⟨v, rfl⟩
          | cons _ _ => simp at hl
      obtain ⟨d, rfl⟩ : ∃ d, ds = [d] := by
        cases ds with
        | nil => simp at hdl
        | cons d ds => cases ds with
          | nil => exact ⟨d, rfl⟩
          | cons _ _ => simp at hdl
      rw [zc] at hres
      have hres : match (if spo (k + 1) d then Res.ok (D.non, [some (spoil (k + 1) d)]) else Res.bad) with
        | .ok (d, os) => ∀ v' H' F' W1 W2, Reps K H' F' [d] [v'] W1 → OReps K H' F' os (ioPick [true] [v]) W2 → Wf H' F' (W1 ++ W2) → Ext H F0 W H' F' (W1 ++ W2) → Q v' H'
        | .exn c x => ∀ cls d H' F', ExOk K mg H' F' c x cls d → Ext H F0 W H' F' [] → E cls d H'
        | .bad => False := hres
      by_cases hsp : spo (k + 1) d = true
      · rw [if_pos hsp] at hres
        have po : PassesOwn (model (cxOf (L2.CX P w) P w K mg base [Str.ofString "thing", Str.ofString "part"] nSpo (defScope st) a cdv A outer s H E).prog (cxOf (L2.CX P w) P w K mg base [Str.ofString "thing", Str.ofString "part"] nSpo (defScope st) a cdv A outer s H E).w) (cxOf (L2.CX P w) P w K mg base [Str.ofString "thing", Str.ofString "part"] nSpo (defScope st) a cdv A outer s H E).A (cxOf (L2.CX P w) P w K mg base [Str.ofString "thing", Str.ofString "part"] nSpo (defScope st) a cdv A outer s H E).env (cxOf (L2.CX P w) P w K mg base [Str.ofString "thing", Str.ofString "part"] nSpo (defScope st) a cdv A outer s H E).xe := passes_of rfl
        have tk : Takes (cxOf (L2.CX P w) P w K mg base [Str.ofString "thing", Str.ofString "part"] nSpo (defScope st) a cdv A outer s H E) (fun cls d _ H => E cls d H) := takes_of rfl rfl rfl rfl
        have GG : Good (cxOf (L2.CX P w) P w K mg base [Str.ofString "thing", Str.ofString "part"] nSpo (defScope st) a cdv A outer s H E) Z' (gamF [nSpo] bs [] kl [Str.ofString "thing", Str.ofString "part"] (defScope st)) E := by
          refine ⟨rfl, S.kind, rfl, S.nd, rfl, fun x hx => ?_, hbs, fun x hx => (nomatch hx), hr.units, fun g hg => ?_⟩
          · obtain ⟨p, hp, rfl⟩ := List.mem_map.mp hx
            have := (List.mem_filter.mp hp).2
            simp only [Bool.or_eq_true, decide_eq_true_eq] at this
            exact ⟨this, .inl rfl⟩
          · have hg' : g ∈ [nSpo] := hg
            have : g = nSpo := by simpa using hg'
            subst this
            exact ⟨⟨a, fd, k + 1, i.mg, i.kp, ih, hr, i.bn, i.kw⟩, passes_call tk fun _ _ _ _ h => h, by decide⟩
        refine spo_body GG po hb (fun _ => rfl) rfl rfl r wf hsp fun σ' H' F' W2 r' w' x' => ?_
        have o : OReps K H' F' [some (spoil (k + 1) d)] [v] (W2 ++ []) := .cons r' .nil
        rw [List.append_nil] at o
        exact hres .non H' F' [] W2 (.non .nil) o (by simpa using w') (by simpa using x')
      · rw [if_neg hsp] at hres; exact hres.elim
end
end Q

namespace Q
open PySem L2 PySem.Spec

/-! ## the head -/
def dvI (is : List Int) : List He.Dv := is.map He.Dv.int
/-- the facts of the defs and names, and the tables of whole numbers -/
def hookQ (n : Nat) (fa : List He.Fa) (fn : List He.DefD) (tb : List (Str × List Int)) : PySem.W.Hook where
  α := He.AlD × Bool
  obs := fun s => (He.obsDG n fa fn s.heap.get?, tb.all fun q => He.tupB (He.frG s.heap.get? (He.asD s.heap.get? n)) q.1 (dvI q.2))
  val := fun _ => (He.valD fn, true)
  says := fun _ h => ∃ K : PySem.W.Frag, K.In h ∧ He.SaysD fa fn K ∧ (tb.all fun q => He.tupB K q.1 (dvI q.2)) = true
  of := fun _ _ e => ⟨_, He.frG_in, congrArg Prod.fst e, congrArg Prod.snd e⟩
  keeps := fun _ _ _ ⟨K, hK, c⟩ k => ⟨K, PySem.W.Frag.In.keeps hK k, c⟩
def obQ (n : Nat) (fa : List He.Fa) (fn : List He.DefD) (tb : List (Str × List Int)) (g : Addr → Option Obj) : He.AlD × Bool := (He.obsDG n fa fn g, tb.all fun q => He.tupB (He.frG g (He.asD g n)) q.1 (dvI q.2))
theorem obQ_eq {n : Nat} {fa : List He.Fa} {fn : List He.DefD} {tb : List (Str × List Int)} {g : Addr → Option Obj} {s : Shared} (h : ∀ a, g a = s.heap.get? a) : obQ n fa fn tb g = (hookQ n fa fn tb).obs s := by
  have e : g = s.heap.get? := funext h
  rw [e]; rfl
theorem says_mem {fa : List He.Fa} {fn : List He.DefD} {K : PySem.W.Frag} (c : He.SaysD fa fn K) {f : He.Fa} (h : f ∈ fa) : f.ok K = true := by
  obtain ⟨i, hi⟩ := List.getElem?_of_mem h
  exact c.fact i hi
def topOf (P : Program) (i : Nat) : Stmt := P.main.body.getD i (.Pass ⟨0, 0, 0, 0⟩)
def defOf (P : Program) (f : Str) (i : Nat) : He.DefD := ⟨(f, none), f, f, defArgs (topOf P i), defBody (topOf P i), defScope (topOf P i), [], []⟩
/-- which facts -/
def faOf (T : Tab) (bs : List Str) (tb : List (Str × List Int)) : List He.Fa := T.map (fun p => .glo p.1) ++ (bs.map He.Fa.free ++ tb.map fun q => .glo q.1)
def constG (tb : List (Str × List Int)) (x : Str) : Option D := match tb.lookup x with | some is => some (.tup (is.map D.int)) | none => none
def ksOf (kl : List (Str × List Str)) (f : Str) : List (List Str) := (kl.filter fun p => decide (p.1 = f)).map (·.2)
/-- how a def's arguments bind, by the text -/
structure BindOk (st : Stmt) (f : Str) (ps : List Str) (kss : List (List Str)) : Prop where
  pos : ∀ (kV doc pm : Value) (an : Option Addr) (cdv ct : Value) (us : List Value), us.length = ps.length → bindArgs (PySem.W.fnOf f f (defArgs st) (defBody st) (defScope st) .none kV doc pm an cdv ct) ⟨us, []⟩ = pure (ps.zip us)
  kw : ∀ ks ∈ kss, ∀ (kV doc pm : Value) (an : Option Addr) (cdv ct : Value) (ws : List Value), ws.length = ks.length → bindArgs (PySem.W.fnOf f f (defArgs st) (defBody st) (defScope st) .none kV doc pm an cdv ct) ⟨[], ks.zip ws⟩ = pure (ps.zip (permL (idxK ks ps) ws))
section
variable {P : Program} {w : World} {K : PySem.W.Frag} {mg : Str → Option Value} {base h : Heap}
theorem fnI_of {kl : List (Str × List Str)} {st : Stmt} {f : Str} {ps : List Str} {a : Addr} {fd : FuncData} (F : FunD K f f (defArgs st) (defBody st) (defScope st) [] [] a fd) (hm : mg f = some (.ref a)) (B : BindOk st f ps (ksOf kl f)) : FnI P w K mg base kl f ps a fd := by
  refine ⟨hm, F.kp, F.bindsN B.pos, fun ks hk => ⟨fun s us ws X l1 l2 => ?_, fun r r2 => Vals.perm (Vals.append r r2) _⟩⟩
  have hk' : ks ∈ ksOf kl f := List.mem_map.mpr ⟨(f, ks), List.mem_filter.mpr ⟨hk, by simp⟩, rfl⟩
  have : us = [] := List.eq_nil_of_length_eq_zero l1
  subst this
  obtain ⟨oc, od, dV, kV, doc, pm, an, cdv, ct, osl, rfl, lk, hcd, hD, hK⟩ := F.ex
  rcases hD with ⟨_, rfl⟩ | ⟨e, _⟩
  · exact .of_eq (B.kw ks hk' kV doc pm an cdv ct ws l2)
  · exact absurd rfl e
theorem reps_ints {H : Hp} {F : Addr → Prop} : ∀ is : List Int, Reps K H F (is.map D.int) (is.map V.int) []
  | [] => .nil
  | i :: is => .int (reps_ints is)
theorem dvI_v (is : List Int) : (dvI is).map (He.Dv.v K) = is.map V.int := by
  unfold dvI
  rw [List.map_map]; rfl
/-- the table out of the head's facts -/
theorem tabI_of {T : Tab} {bs gs : List Str} {tb : List (Str × List Int)} {kl : List (Str × List Str)} {fn : List He.DefD} {c : Nat} (X : K.In h) (G : h.Ns mainGlobals mg) (s : He.SaysD (faOf T bs tb) fn K) (ht : (tb.all fun q => He.tupB K q.1 (dvI q.2)) = true)
    (hd : T.lookup ("__debug__" : Str) = none)
    (hf : ∀ p ∈ T, ∃ a fd, FnI P w K mg base kl p.1 p.2.ps a fd ∧ match p.2.prim with
      | none => ∃ st, FunD K p.1 p.1 (defArgs st) (defBody st) (defScope st) [] [] a fd ∧ chkFn (T.map (·.1)) bs gs kl p.2 st = true
      | some g => ∀ Z : EnvQ, Z.ar p.1 = p.2.ps → Z.md p.1 = p.2.md → (∀ ds, Z.call p.1 ds = g ds) → FnOk P w K mg base (L2.CX P w) (c + 1) a fd p.2.ps (SpF K mg Z p.1)) :
    TabI P w K mg base T (constG tb) bs gs kl c := by
  refine ⟨fun x hx => ?_, fun x hx d e => ?_, hd, fun f fn h => hf (f, fn) (PySem.mem_of_lookup h)⟩
  · exact He.free_ok X G (says_mem s (List.mem_append_right _ (List.mem_append_left _ (List.mem_map_of_mem hx))))
  · unfold constG at e
    split at e <;> simp only [Option.some.injEq, reduceCtorEq] at e
    rename_i is hl
    subst e
    have hm := PySem.mem_of_lookup hl
    have g := He.glo_ok X G (says_mem s (f := .glo x) (List.mem_append_right _ (List.mem_append_right _ (List.mem_map.mpr ⟨(x, is), hm, rfl⟩))))
    have t := List.all_eq_true.mp ht (x, is) hm
    refine ⟨.ref (He.ga K x), _, g, rfl, fun H F => ?_⟩
    have sq := He.tupB_ok t H
    rw [dvI_v] at sq
    have := Reps.tup (F := F) (W2 := []) sq (reps_ints is) .nil
    simpa using this
/-- an entry of the text -/
theorem entry_of {T : Tab} {bs gs : List Str} {tb : List (Str × List Int)} {kl : List (Str × List Str)} {fn : List He.DefD} {c i j : Nat} (X : K.In h) (G : h.Ns mainGlobals mg) (s : He.SaysD (faOf T bs tb) fn K) {f : Str} {fd0 : FnD} (hT : (f, fd0) ∈ T) (hp : fd0.prim = none) (hi : fn[i]? = some (defOf P f j))
    (B : BindOk (topOf P j) f fd0.ps (ksOf kl f)) (ck : chkFn (T.map (·.1)) bs gs kl fd0 (topOf P j) = true) :
    ∃ a fd, FnI P w K mg base kl f fd0.ps a fd ∧ match fd0.prim with
      | none => ∃ st, FunD K f f (defArgs st) (defBody st) (defScope st) [] [] a fd ∧ chkFn (T.map (·.1)) bs gs kl fd0 st = true
      | some g => ∀ Z : EnvQ, Z.ar f = fd0.ps → Z.md f = fd0.md → (∀ ds, Z.call f ds = g ds) → FnOk P w K mg base (L2.CX P w) (c + 1) a fd fd0.ps (SpF K mg Z f) := by
  obtain ⟨fd, F⟩ := s.def_ i hi
  have g := He.glo_ok X G (says_mem s (f := .glo f) (List.mem_append_left _ (List.mem_map.mpr ⟨(f, fd0), hT, rfl⟩)))
  have F' : FunD K f f (defArgs (topOf P j)) (defBody (topOf P j)) (defScope (topOf P j)) [] [] (He.ga K f) fd := F
  refine ⟨He.ga K f, fd, fnI_of F' g B, ?_⟩
  rw [hp]
  exact ⟨topOf P j, F', ck⟩
/-- the entry of the def that spoils -/
theorem entry_spo {T : Tab} {bs gs : List Str} {tb : List (Str × List Int)} {kl : List (Str × List Str)} {fn : List He.DefD} {c i j : Nat} (X : K.In h) (G : h.Ns mainGlobals mg) (s : He.SaysD (faOf T bs tb) fn K) {fd0 : FnD} (hT : (nSpo, fd0) ∈ T) (hps : fd0.ps = [Str.ofString "thing"]) (hmd : fd0.md = [true]) (hp : fd0.prim = some (spoRun c)) (hi : fn[i]? = some (defOf P nSpo j))
    (B : BindOk (topOf P j) nSpo [Str.ofString "thing"] (ksOf kl nSpo)) (hsc : chkSc [Str.ofString "thing", Str.ofString "part"] [Str.ofString "thing"] (defScope (topOf P j)) = true) (ck : chkSpo (gamF [nSpo] bs [] kl [Str.ofString "thing", Str.ofString "part"] (defScope (topOf P j))) (defBody (topOf P j)) = true) :
    ∃ a fd, FnI P w K mg base kl nSpo fd0.ps a fd ∧ match fd0.prim with
      | none => ∃ st, FunD K nSpo nSpo (defArgs st) (defBody st) (defScope st) [] [] a fd ∧ chkFn (T.map (·.1)) bs gs kl fd0 st = true
      | some g => ∀ Z : EnvQ, Z.ar nSpo = fd0.ps → Z.md nSpo = fd0.md → (∀ ds, Z.call nSpo ds = g ds) → FnOk P w K mg base (L2.CX P w) (c + 1) a fd fd0.ps (SpF K mg Z nSpo) := by
  obtain ⟨fd, F⟩ := s.def_ i hi
  have g := He.glo_ok X G (says_mem s (f := .glo nSpo) (List.mem_append_left _ (List.mem_map.mpr ⟨(nSpo, fd0), hT, rfl⟩)))
  have F' : FunD K nSpo nSpo (defArgs (topOf P j)) (defBody (topOf P j)) (defScope (topOf P j)) [] [] (He.ga K nSpo) fd := F
  have fi : FnI P w K mg base kl nSpo [Str.ofString "thing"] (He.ga K nSpo) fd := fnI_of F' g B
  have hbs : ∀ x ∈ bs, mg x = none := fun x hx => He.free_ok X G (says_mem s (List.mem_append_right _ (List.mem_append_left _ (List.mem_map_of_mem hx))))
  refine ⟨He.ga K nSpo, fd, by rw [hps]; exact fi, ?_⟩
  rw [hp]
  intro Z za zm zc
  rw [hps] at za ⊢
  rw [hmd] at zm
  exact spo_ok F' fi hsc ck hbs c Z za zm zc
/-- the law's promise out of the plain fact -/
theorem law_sp {Z : EnvQ} {ns : List Int} (za : Z.ar ("law" : Str) = [("script" : Str)]) (zm : Z.md ("law" : Str) = []) (hz : Z.call ("law" : Str) [.frz (ns.map D.int)] = .ok (.bl true, [])) {H : Hp} {a : Addr} (hS : SqL K H a (ns.map V.int)) :
    SpF K mg Z ("law" : Str) [.ref a] H (fun v _ => v = .bl true) (fun _ _ _ => False) := by
  refine ⟨[.frz (ns.map D.int)], fun b => b = a ∧ H b ≠ none, [], by rw [za]; rfl, .frz ?_ (reps_ints ns) .nil, ⟨List.nodup_nil, (fun b m => nomatch m), fun b f => f.2⟩, by rw [zm]; rfl, ?_⟩
  · rcases hS with s | s
    · refine .inl ⟨s, rfl, ?_⟩
      rcases s with s | ⟨o, s⟩ <;> (rw [s]; exact fun z => nomatch z)
    · exact .inr s
  · rw [hz]
    intro v H' F' W1 W2 r _ _ _
    exact r.blI
/-- the law's def -/
theorem law_fn {T : Tab} {bs gs : List Str} {tb : List (Str × List Int)} {kl : List (Str × List Str)} {c N n j : Nat} {fd0 : FnD} {a : Addr} {fd : FuncData} (I : TabI P w K mg base T (constG tb) bs gs kl c) (F : FunD K ("law" : Str) ("law" : Str) (defArgs (topOf P j)) (defBody (topOf P j)) (defScope (topOf P j)) [] [] a fd)
    (hT : T.lookup ("law" : Str) = some fd0) (hp : fd0.prim = none) (ck : chkFn (T.map (·.1)) bs gs kl fd0 (topOf P j) = true) :
    FnOk P w K mg base (L2.CX P w) (n + c + 2) a fd fd0.ps (SpF K mg (envN T (constG tb) N (n + 1)) ("law" : Str)) := by
  refine fn_ok (k := n + c + 1) hT hp F ck I.hbs I.hgs fun g hg => ?_
  obtain ⟨fn', h'⟩ := lookup_key hg
  obtain ⟨a', fd', i', o'⟩ := tab_ok (N := N) I n g fn' h'
  rw [envN_ar h']
  refine ⟨fun z => ?_, a', fd', i', o'⟩
  rw [z, I.dbg] at h'; cases h'
end
end Q
namespace Q
open PySem L2 PySem.Spec
/-- the end of a law's head: a promise with exceptions that nobody sees -/
theorem walk_Q {l : PySem.W.OpenLaw} {m k : Nat} {q : Program} {loose : List Str} {XP : (Str → Option Value) → Heap → Prop} {YP : World → Heap → Prop} {d : DefRec}
    (hn : l.most = some m) (hm : m ≤ sizeLine) (hdf : d.params.defaults = []) (hr : Room k callerA)
    (F : ∀ (w : World) (mg : Str → Option Value) (fa : Addr) (h : Heap), YP w h → h.Ns mainGlobals mg → mg d.name = some (.ref fa) →
      ∃ (K : PySem.W.Frag) (fd : FuncData) (sp : Sp), K.In h ∧ (∀ (s : Shared) (u : Value), BindsTo s fd ⟨[u], []⟩ [(("script" : Str), u)]) ∧
        (∀ (H : Hp) (a : Addr) (ns : List Int), ns.length ≤ m → SqL K H a (ns.map V.int) → sp [.ref a] H (fun v _ => v = .bl true) fun _ _ _ => False) ∧
        ∀ base : Heap, K.In base → base.Ns mainGlobals mg → FnOk l.prog w K mg base (L2.CX l.prog w) k fa fd [("script" : Str)] sp) :
    PySem.W.WalkO q loose XP YP l.row.toRowW d [] (fun f vs => PySem.call f vs) := by
  refine Att.attach_call hn hdf fun w s0 s1 mg mb fa o pm cd doc a vs ns G Y ho hd hcd hmg hobj hints hlen hg => ?_
  obtain ⟨K, fd, sp, KX, hb, hsp, hF⟩ := F w mg fa _ Y G.T.g hmg
  refine law_call KX G.T.g G.T.b G.T.builtins G.T.nolimit hg hobj hints (by omega) hr hF hb (fun H _ hS => hsp H a ns hlen hS) fun H e s' z => ?_
  obtain ⟨_, _, _, _, _, _, _, _, _, _, _, _, no⟩ := z
  exact no
/-- a law out of its plain fact -/
theorem walk_T {l : PySem.W.OpenLaw} {m n c N i j : Nat} {q : Program} {loose : List Str} {XP : (Str → Option Value) → Heap → Prop} {d : DefRec} {T : Tab} {bs gs : List Str} {tb : List (Str × List Int)} {kl : List (Str × List Str)} {fn : List He.DefD} {fd0 : FnD} {nn : Nat}
    (hn : l.most = some m) (hm : m ≤ sizeLine) (hdf : d.params.defaults = []) (hr : Room (n + c + 2) callerA) (hname : d.name = ("law" : Str))
    (hd : T.lookup ("__debug__" : Str) = none) (hT : T.lookup ("law" : Str) = some fd0) (hp : fd0.prim = none) (hps : fd0.ps = [("script" : Str)]) (hmd : fd0.md = []) (hi : fn[i]? = some (defOf l.prog ("law" : Str) j)) (ck : chkFn (T.map (·.1)) bs gs kl fd0 (topOf l.prog j) = true) (B : BindOk (topOf l.prog j) ("law" : Str) [("script" : Str)] (ksOf kl ("law" : Str)))
    (hf : ∀ {w : World} {K : PySem.W.Frag} {mg : Str → Option Value} {base h : Heap}, K.In h → h.Ns mainGlobals mg → He.SaysD (faOf T bs tb) fn K → ∀ p ∈ T, ∃ a fd, FnI l.prog w K mg base kl p.1 p.2.ps a fd ∧ match p.2.prim with
      | none => ∃ st, FunD K p.1 p.1 (defArgs st) (defBody st) (defScope st) [] [] a fd ∧ chkFn (T.map (·.1)) bs gs kl p.2 st = true
      | some g => ∀ Z : EnvQ, Z.ar p.1 = p.2.ps → Z.md p.1 = p.2.md → (∀ ds, Z.call p.1 ds = g ds) → FnOk l.prog w K mg base (L2.CX l.prog w) (c + 1) a fd p.2.ps (SpF K mg Z p.1))
    (plain : ∀ ns : List Int, ns.length ≤ m → (envN T (constG tb) N (n + 1)).call ("law" : Str) [.frz (ns.map D.int)] = .ok (.bl true, [])) :
    PySem.W.WalkO q loose XP (hookQ nn (faOf T bs tb) fn tb).says l.row.toRowW d [] (fun f vs => PySem.call f vs) := by
  refine walk_Q hn hm hdf hr fun w mg fa h Y G hmg => ?_
  obtain ⟨K, X, s, t⟩ := Y
  obtain ⟨fd, F⟩ := s.def_ i hi
  have g := He.glo_ok X G (says_mem s (f := .glo ("law" : Str)) (List.mem_append_left _ (List.mem_map.mpr ⟨(("law" : Str), fd0), PySem.mem_of_lookup hT, rfl⟩)))
  rw [hname] at hmg
  have ea := hmg.symm.trans g
  cases ea
  have F' : FunD K ("law" : Str) ("law" : Str) (defArgs (topOf l.prog j)) (defBody (topOf l.prog j)) (defScope (topOf l.prog j)) [] [] (He.ga K ("law" : Str)) fd := F
  refine ⟨K, fd, SpF K mg (envN T (constG tb) N (n + 1)) ("law" : Str), X, fun s u => ?_, fun H a ns hl hS => law_sp (by rw [envN_ar hT, hps]) (by rw [envN_md hT, hmd]) (plain ns hl) hS, fun base bX bG => ?_⟩
  · exact FunD.bindsA (ps := [("script" : Str)]) F' B.pos s [u] rfl
  · have I : TabI l.prog w K mg base T (constG tb) bs gs kl c := tabI_of X G s t hd (hf X G s)
    have := law_fn (n := n) (N := N) I F' hT hp ck
    rw [hps] at this
    exact this
end Q

namespace Q
open PySem L2 PySem.Spec

/-! ## plain helps: loops over data -/
/-- a for whose body does not leave: F folds -/
theorem forRun_fold {tg : Tg} {body : Lcs → RS} {α β : Type} (V : α → β → Lcs) (dx : β → D) (step : α → β → α) (z : α → Lcs → Prop) :
    ∀ (xs : List β) (a : α) (L : Lcs), z a L → (∀ x ∈ xs, ∀ a L, z a L → ∃ L1 L2, tg.set (dx x) L = some L1 ∧ body L1 = .nx L2 ∧ z (step a x) L2) → ∃ L', forRun tg body (xs.map dx) L = .nx L' ∧ z (xs.foldl step a) L'
  | [], a, L, h, _ => ⟨L, rfl, h⟩
  | x :: xs, a, L, h, s => by
    obtain ⟨L1, L2, e1, e2, h2⟩ := s x List.mem_cons_self a L h
    obtain ⟨L', e3, h3⟩ := forRun_fold V dx step z xs (step a x) L2 h2 fun y m => s y (List.mem_cons_of_mem _ m)
    refine ⟨L', ?_, h3⟩
    rw [List.map_cons, forRun_cons, e1]
    simp only [e2, stepR]
    exact e3
/-- a comprehension whose parts leave the names as they are -/
theorem lcRun_pure {tg : Tg} {vs : List Nat} {cond : Lcs → Res (Bool × Lcs)} {elt : Lcs → Res (D × Lcs)} {β : Type} (dx : β → D) (p : β → Bool) (f : β → D) (W0 : Lcs) :
    ∀ (xs : List β) (L : Lcs), wipeL L vs = W0 → (∀ x ∈ xs, ∃ L1, tg.set (dx x) W0 = some L1 ∧ wipeL L1 vs = W0 ∧ cond L1 = .ok (p x, L1) ∧ (p x = true → elt L1 = .ok (f x, L1))) →
      ∃ Lf, lcRun tg vs cond elt (xs.map dx) L = .ok ((xs.filter p).map f, Lf) ∧ wipeL Lf vs = W0
  | [], L, h, _ => ⟨L, by rw [List.map_nil, lcRun]; rfl, h⟩
  | x :: xs, L, h, s => by
    obtain ⟨L1, e1, e2, e3, e4⟩ := s x List.mem_cons_self
    obtain ⟨Lf, e5, e6⟩ := lcRun_pure dx p f W0 xs L1 e2 fun y m => s y (List.mem_cons_of_mem _ m)
    refine ⟨Lf, ?_, e6⟩
    rw [List.map_cons, lcRun, h, e1]
    cases hp : p x with
    | false => rw [hp] at e3; simp only [e3, e5, List.filter_cons, hp, Bool.false_eq_true, if_false]
    | true => rw [hp] at e3; simp only [e3, e4 hp, e5, List.filter_cons, hp, if_true, List.map_cons]
theorem rngD_map (lo : Int) : ∀ n : Nat, rngD lo n = (List.range n).map fun k : Nat => D.int (lo + (k : Nat))
  | 0 => rfl
  | n + 1 => by
    rw [rngD, rngD_map (lo + 1) n, List.range_succ_eq_map, List.map_cons, List.map_map]
    congr 1
    · simp
    · apply List.map_congr_left
      intro k _
      simp only [Function.comp]
      congr 1
      omega

/-! ## the stream of draws -/
/-- what a stream is: the script's rest, the cell, the turn, the mix -/
def strD (ns : List Int) (a b c : Int) : D := .lst true [.lst true (ns.map D.int), .int a, .int b, .int c]

theorem toPys_ints : ∀ ns : List Int, D.toPys (ns.map D.int) = some (ns.map PyData.int)
  | [] => rfl
  | n :: ns => by simp [D.toPys, D.toPy, toPys_ints ns]
theorem lay_ints : ∀ ns : List Int, PyData.canLayAll0 (ns.map PyData.int) = true
  | [] => rfl
  | n :: ns => by simp [PyData.canLayAll0, PyData.canLay0, lay_ints ns]
theorem depth_ints : ∀ ns : List Int, PyData.depthAll (ns.map PyData.int) = 0
  | [] => rfl
  | n :: ns => by simp [PyData.depthAll, PyData.depth, depth_ints ns]
theorem eqE_ints (b : Bool) (ns : List Int) : eqD (.lst b (ns.map D.int)) (.lst false []) = some ns.isEmpty := by
  have h1 : SeqAt.shaped (.list (ns.map PyData.int)) = true := by simp [SeqAt.shaped, PyData.canLay0, lay_ints, PyData.depth, depth_ints]
  have h2 : SeqAt.shaped (.list []) = true := rfl
  simp only [eqD, D.toPy, toPys_ints, D.toPys, h1, h2, Bool.and_self, if_true]
  cases ns <;> rfl

def drawBody : Ss :=
 (.cons (.setx 0 [] (.int 2) (.p (.o2 .add (.o2 .ix (.var 0) (.int 2)) (.int 1))))
 (.cons (.whl (.p (.and (.o2 .eq (.o2 .ix (.var 0) (.int 1)) (.int 0)) (.o1 .neE (.o2 .ix (.var 0) (.int 0)))))
 (.cons (.asg (.nm 3) (.o1 .abs (.popi 0 [(.int 0)] (.cons (.p (.int 0)) .nil))))
 (.cons (.setx 0 [] (.int 3) (.p (.o2 .mod (.o1 .int1 (.o2 .add (.o2 .add (.o2 .mul (.o2 .ix (.var 0) (.int 3)) (.int 8191)) (.var 3)) (.int 3))) (.int 2147483647))))
 (.cons (.setx 0 [] (.int 1) (.ife (.p (.o2 .ge (.var 3) (.o2 .pow (.int 10) (.int 18)))) (.p (.var 3)) (.p (.int 0))))
 .nil))))
 (.cons (.ifs (.p (.o2 .gt (.o2 .ix (.var 0) (.int 1)) (.int 0)))
 (.cons (.asg (.nm 4) (.p (.o2 .mod (.o1 .int1 (.o2 .ix (.var 0) (.int 1))) (.var 1))))
 (.cons (.setx 0 [] (.int 1) (.p (.o2 .fdiv (.o2 .ix (.var 0) (.int 1)) (.var 1))))
 (.cons (.ret (.mv 4))
 .nil)))
 .nil)
 (.cons (.asg (.nm 2) (.p (.o2 .mod (.o1 .int1 (.o2 .pow (.o2 .add (.o2 .add (.o2 .ix (.var 0) (.int 3)) (.o2 .mul (.int 7919) (.o2 .ix (.var 0) (.int 2)))) (.int 104729)) (.int 5))) (.int 2147483629))))
 (.cons (.ret (.p (.o2 .mod (.o2 .mod (.o1 .int1 (.o2 .pow (.o2 .add (.o2 .add (.o2 .mul (.var 2) (.int 48271)) (.o2 .mul (.int 30011) (.o2 .ix (.var 0) (.int 2)))) (.int 29)) (.int 3))) (.int 1000000007)) (.var 1))))
 .nil)))))
section
variable {G : Str → Option D} {L : Lcs}
theorem pur2 {o : O2} {p q : P} {d e : D} (h1 : pur G p L = some d) (h2 : pur G q L = some e) : pur G (.o2 o p q) L = ap2 o d e := by simp only [pur, h1, h2]
theorem pur1 {o : O1} {p : P} {d : D} (h1 : pur G p L = some d) : pur G (.o1 o p) L = ap1 o d := by simp only [pur, h1]
theorem ap_mod {i j : Int} (h : j ≠ 0) : ap2 .mod (.int i) (.int j) = some (.int (i.fmod j)) := if_pos h
theorem ap_fdiv {i j : Int} (h : j ≠ 0 ∧ j.natAbs.log2 < 9000) : ap2 .fdiv (.int i) (.int j) = some (.int (i.fdiv j)) := if_pos h
theorem ap_mul {i j : Int} (h : i.natAbs.log2 + j.natAbs.log2 < 1000000) : ap2 .mul (.int i) (.int j) = some (.int (i * j)) := if_pos h
theorem ap_pow {i j : Int} (h : 0 ≤ j ∧ j ≤ 1000 ∧ i.natAbs < pow64) : ap2 .pow (.int i) (.int j) = some (.int (i ^ j.toNat)) := if_pos h
end
section
variable {V : EnvQ}
theorem at4 (x : D) (b c e : D) : atI [x, b, c, e] 0 = some x ∧ atI [x, b, c, e] 1 = some b ∧ atI [x, b, c, e] 2 = some c ∧ atI [x, b, c, e] 3 = some e := ⟨rfl, rfl, rfl, rfl⟩
theorem ix4 : ixN 4 0 = some 0 ∧ ixN 4 1 = some 1 ∧ ixN 4 2 = some 2 ∧ ixN 4 3 = some 3 := ⟨rfl, rfl, rfl, rfl⟩
/-- stream[k] = an int -/
theorem setx4 {i : Int} {j : Nat} (hi : ixN 4 i = some j) {e : E} {x : D} {x0 x1 x2 x3 : D} {L : Lcs} {p : P} (hp : e = .p p) (he : pur V.G p (some (.lst true [x0, x1, x2, x3]) :: L) = some x) (hx : x.noOwn = true) :
    runS V (.setx 0 [] (.int i) e) (some (.lst true [x0, x1, x2, x3]) :: L) = .nx (some (.lst true ([x0, x1, x2, x3].set j x)) :: L) := by
  subst hp
  rw [run_setx, den_p]
  simp only [keepP, he, hx, if_true, Res.seq, setxRun, List.getElem?_cons_zero, pathInts, pur, updPath, List.length_cons, List.length_nil, Nat.zero_add, Nat.reduceAdd, hi, RS.of, List.set]
theorem setx4E {i : Int} {j : Nat} (hi : ixN 4 i = some j) {e : E} {x : D} {x0 x1 x2 x3 : D} {L : Lcs} (he : den V e (some (.lst true [x0, x1, x2, x3]) :: L) = .ok (x, some (.lst true [x0, x1, x2, x3]) :: L)) :
    runS V (.setx 0 [] (.int i) e) (some (.lst true [x0, x1, x2, x3]) :: L) = .nx (some (.lst true ([x0, x1, x2, x3].set j x)) :: L) := by
  rw [run_setx, he]
  simp only [Res.seq, setxRun, List.getElem?_cons_zero, pathInts, pur, updPath, List.length_cons, List.length_nil, Nat.zero_add, Nat.reduceAdd, hi, RS.of, List.set]
/-- a name = a pure value of no list -/
theorem asgP {i : Nat} {p : P} {L : Lcs} {x : D} (he : pur V.G p L = some x) (hx : x.noOwn = true) : runS V (.asg (.nm i) (.p p)) L = .nx (L.set i (some x)) := by
  rw [run_asg, den_p]
  simp only [keepP, he, hx, if_true, Res.seq, Tg.set, RS.of]
theorem log2_lt {i : Int} {k : Nat} (hk : 0 < k) (h : i.natAbs < 2 ^ k) : i.natAbs.log2 < k := by
  by_cases hz : i.natAbs = 0
  · rw [hz]; simpa using hk
  · exact (Nat.log2_lt hz).mpr h

def drawWhl : S := .whl (.p (.and (.o2 .eq (.o2 .ix (.var 0) (.int 1)) (.int 0)) (.o1 .neE (.o2 .ix (.var 0) (.int 0)))))
 (.cons (.asg (.nm 3) (.o1 .abs (.popi 0 [(.int 0)] (.cons (.p (.int 0)) .nil))))
 (.cons (.setx 0 [] (.int 3) (.p (.o2 .mod (.o1 .int1 (.o2 .add (.o2 .add (.o2 .mul (.o2 .ix (.var 0) (.int 3)) (.int 8191)) (.var 3)) (.int 3))) (.int 2147483647))))
 (.cons (.setx 0 [] (.int 1) (.ife (.p (.o2 .ge (.var 3) (.o2 .pow (.int 10) (.int 18)))) (.p (.var 3)) (.p (.int 0))))
 .nil)))
def stL (ns : List Int) (a b c m : Int) (o2 o3 o4 : Option D) : Lcs := [some (strD ns a b c), some (.int m), o2, o3, o4]
theorem draw_cond (ns : List Int) (a b c m : Int) (o2 o3 o4 : Option D) :
    tst V (.p (.and (.o2 .eq (.o2 .ix (.var 0) (.int 1)) (.int 0)) (.o1 .neE (.o2 .ix (.var 0) (.int 0))))) (stL ns a b c m o2 o3 o4) = .ok (decide (a = 0) && !ns.isEmpty, stL ns a b c m o2 o3 o4) := by
  unfold tst
  rw [rdW_p]
  have e1 : pur V.G (.o2 .eq (.o2 .ix (.var 0) (.int 1)) (.int 0)) (stL ns a b c m o2 o3 o4) = some (.bl (decide (a = 0))) := rfl
  have e2 : pur V.G (.o1 .neE (.o2 .ix (.var 0) (.int 0))) (stL ns a b c m o2 o3 o4) = some (.bl (!ns.isEmpty)) := by
    have e3 : pur V.G (.o2 .ix (.var 0) (.int 0)) (stL ns a b c m o2 o3 o4) = some (.lst true (ns.map D.int)) := rfl
    simp only [pur.eq_7, e3, ap1, eqE_ints]
  simp only [pur.eq_9, e1]
  cases h : decide (a = 0) with
  | true => simp only [e2, tru, Res.of, Res.bind, Bool.true_and]
  | false => simp only [tru, Res.of, Res.bind, Bool.false_and]
theorem p18 : (10 : Int) ^ (18 : Int).toNat = 1000000000000000000 := by decide
theorem pop4 (x : Int) (ns : List Int) (a b c : Int) (L : Lcs) : popRun V.G 0 [.int 0] 0 (some (strD (x :: ns) a b c) :: L) = some (.int x, some (strD ns a b c) :: L) := by
  have e0 : ixN (ns.length + 1) 0 = some 0 := by unfold ixN; rw [if_pos (by decide), if_pos (by omega)]; rfl
  have e1 : updPath (fun ds => some (ds.eraseIdx 0)) (strD (x :: ns) a b c) [0] = some (strD ns a b c) := by
    simp only [strD, updPath, List.length_cons, List.length_nil, Nat.zero_add, Nat.reduceAdd, ix4.1, List.getElem?_cons_zero, List.map_cons, List.eraseIdx_cons_zero, List.set]
  simp only [popRun, List.getElem?_cons_zero, pathInts, pur]
  have e2 : atPath (strD (x :: ns) a b c) [0] = some (.lst true ((x :: ns).map D.int)) := rfl
  simp only [e2, List.length_map, List.length_cons, e0, List.map_cons, List.getElem?_cons_zero, e1, List.set]
theorem draw_turn (x : Int) (ns : List Int) (b c m : Int) (o2 o3 o4 : Option D) (hc : 0 ≤ c ∧ c < 2147483647) :
    ∃ a' c' : Int, ∃ o, 0 ≤ a' ∧ (0 ≤ c' ∧ c' < 2147483647) ∧ runSs V
 (.cons (.asg (.nm 3) (.o1 .abs (.popi 0 [(.int 0)] (.cons (.p (.int 0)) .nil))))
 (.cons (.setx 0 [] (.int 3) (.p (.o2 .mod (.o1 .int1 (.o2 .add (.o2 .add (.o2 .mul (.o2 .ix (.var 0) (.int 3)) (.int 8191)) (.var 3)) (.int 3))) (.int 2147483647))))
 (.cons (.setx 0 [] (.int 1) (.ife (.p (.o2 .ge (.var 3) (.o2 .pow (.int 10) (.int 18)))) (.p (.var 3)) (.p (.int 0))))
 .nil))) (stL (x :: ns) 0 b c m o2 o3 o4) = .nx (stL ns a' b c' m o2 o o4) := by
  let cell : Int := if x < 0 then -x else x
  have hcell : 0 ≤ cell := by show 0 ≤ (if x < 0 then -x else x); split <;> omega
  let c1 : Int := (c * 8191 + cell + 3).fmod 2147483647
  have hc1 : 0 ≤ c1 ∧ c1 < 2147483647 := ⟨Int.fmod_nonneg (by omega) (by decide), Int.fmod_lt_of_pos _ (by decide)⟩
  let a1 : Int := if 1000000000000000000 ≤ cell then cell else 0
  have ha1 : 0 ≤ a1 := by show 0 ≤ (if 1000000000000000000 ≤ cell then cell else 0); split <;> omega
  refine ⟨a1, c1, some (.int cell), ha1, hc1, ?_⟩
  have s1 : runS V (.asg (.nm 3) (.o1 .abs (.popi 0 [(.int 0)] (.cons (.p (.int 0)) .nil)))) (stL (x :: ns) 0 b c m o2 o3 o4) = .nx (stL ns 0 b c m o2 (some (.int cell)) o4) := by
    rw [run_asg, den_o1]
    show ((den V (.popi 0 [(.int 0)] (.cons (.p (.int 0)) .nil)) (stL (x :: ns) 0 b c m o2 o3 o4)).bind _).seq _ = _
    rw [den_pop2]
    simp only [purE, pur, Res.of, Res.bind, intOf, stL, pop4, ap1, Res.seq, Tg.set, RS.of, List.set]
    rfl
  have hm : c.natAbs.log2 + (8191 : Int).natAbs.log2 < 1000000 := by
    have : c.natAbs.log2 < 32 := log2_lt (by decide) (Nat.lt_of_lt_of_le (show c.natAbs < 2 ^ 32 by omega) (Nat.le_refl _))
    have h2 : (8191 : Int).natAbs.log2 = 12 := by decide
    omega
  have s2 : runS V (.setx 0 [] (.int 3) (.p (.o2 .mod (.o1 .int1 (.o2 .add (.o2 .add (.o2 .mul (.o2 .ix (.var 0) (.int 3)) (.int 8191)) (.var 3)) (.int 3))) (.int 2147483647)))) (stL ns 0 b c m o2 (some (.int cell)) o4) = .nx (stL ns 0 b c1 m o2 (some (.int cell)) o4) := by
    refine (setx4 (x := .int c1) ix4.2.2.2 rfl ?_ rfl).trans rfl
    simp only [pur, List.getElem?_cons_zero, List.getElem?_cons_succ, ap2, at4, hm, if_true, ap1]
    rfl
  have s3 : runS V (.setx 0 [] (.int 1) (.ife (.p (.o2 .ge (.var 3) (.o2 .pow (.int 10) (.int 18)))) (.p (.var 3)) (.p (.int 0)))) (stL ns 0 b c1 m o2 (some (.int cell)) o4) = .nx (stL ns a1 b c1 m o2 (some (.int cell)) o4) := by
    refine (setx4E (x := .int a1) ix4.2.1 ?_).trans rfl
    rw [den_ife, rdW_p]
    have e : pur V.G (.o2 .ge (.var 3) (.o2 .pow (.int 10) (.int 18))) (some (.lst true [.lst true (ns.map D.int), .int 0, .int b, .int c1]) :: [some (.int m), o2, some (.int cell), o4]) = some (.bl (decide (1000000000000000000 ≤ cell))) := by
      have e2 : pur V.G (.o2 .pow (.int 10) (.int 18)) (some (.lst true [.lst true (ns.map D.int), .int 0, .int b, .int c1]) :: [some (.int m), o2, some (.int cell), o4]) = some (.int 1000000000000000000) := by rfl
      simp only [pur.eq_8, e2, pur.eq_1, List.getElem?_cons_zero, List.getElem?_cons_succ, ap2]
    rw [e]
    by_cases h : 1000000000000000000 ≤ cell
    · have : a1 = cell := if_pos h
      rw [this]
      simp only [h, decide_true, tru, Res.of, Res.bind, if_true, den_p, keepP, pur, List.getElem?_cons_zero, List.getElem?_cons_succ, D.noOwn]
    · have : a1 = 0 := if_neg h
      rw [this]
      simp only [h, decide_false, tru, Res.of, Res.bind, Bool.false_eq_true, if_false, den_p, keepP, pur, D.noOwn, if_true]
  rw [runs_cons, s1]
  simp only [RS.seq]
  rw [runs_cons, s2]
  simp only [RS.seq]
  rw [runs_cons, s3]
  simp only [RS.seq]
  rw [runs_nil]

theorem draw_loop (m b : Int) (o2 o4 : Option D) : ∀ (ns : List Int) (fuel : Nat) (a c : Int) (o3 : Option D), ns.length < fuel → 0 ≤ a → (0 ≤ c ∧ c < 2147483647) →
    ∃ ns' a' c' o, ns'.length ≤ ns.length ∧ 0 ≤ a' ∧ (0 ≤ c' ∧ c' < 2147483647) ∧ whlRun (fun L => tst V (.p (.and (.o2 .eq (.o2 .ix (.var 0) (.int 1)) (.int 0)) (.o1 .neE (.o2 .ix (.var 0) (.int 0))))) L) (fun L => runSs V
 (.cons (.asg (.nm 3) (.o1 .abs (.popi 0 [(.int 0)] (.cons (.p (.int 0)) .nil))))
 (.cons (.setx 0 [] (.int 3) (.p (.o2 .mod (.o1 .int1 (.o2 .add (.o2 .add (.o2 .mul (.o2 .ix (.var 0) (.int 3)) (.int 8191)) (.var 3)) (.int 3))) (.int 2147483647))))
 (.cons (.setx 0 [] (.int 1) (.ife (.p (.o2 .ge (.var 3) (.o2 .pow (.int 10) (.int 18)))) (.p (.var 3)) (.p (.int 0))))
 .nil))) L) fuel (stL ns a b c m o2 o3 o4) = .nx (stL ns' a' b c' m o2 o o4) := by
  intro ns
  induction ns with
  | nil =>
    intro fuel a c o3 hf ha hc
    cases fuel with
    | zero => simp at hf
    | succ f =>
      refine ⟨[], a, c, o3, Nat.le_refl _, ha, hc, ?_⟩
      rw [whlRun_succ, draw_cond]
      simp [Res.seq]
  | cons x ns ih =>
    intro fuel a c o3 hf ha hc
    cases fuel with
    | zero => simp at hf
    | succ f =>
      by_cases h0 : a = 0
      · subst h0
        obtain ⟨a1, c1, o, h1, h2, e⟩ := draw_turn (V := V) x ns b c m o2 o3 o4 hc
        obtain ⟨ns', a', c', o', g1, g2, g3, g4⟩ := ih f a1 c1 o (by simpa using hf) h1 h2
        refine ⟨ns', a', c', o', Nat.le_succ_of_le g1, g2, g3, ?_⟩
        rw [whlRun_succ, draw_cond]
        simp only [Res.seq, decide_true, List.isEmpty_cons, Bool.not_false, Bool.and_self, if_true, e, stepR]
        exact g4
      · refine ⟨x :: ns, a, c, o3, Nat.le_refl _, ha, hc, ?_⟩
        rw [whlRun_succ, draw_cond]
        simp [Res.seq, h0]

/-- a draw: a number below m; the stream goes on -/
theorem draw_run {ns : List Int} {a b c m : Int} (hN : ns.length < V.N) (ha : 0 ≤ a) (hb : 0 ≤ b ∧ b < 1000000) (hc : 0 ≤ c ∧ c < 2147483647) (hm : 0 < m ∧ m < 1000000) :
    ∃ ns' a' c' L' k, ns'.length ≤ ns.length ∧ 0 ≤ a' ∧ (0 ≤ c' ∧ c' < 2147483647) ∧ (0 ≤ k ∧ k < m) ∧ runSs V drawBody [some (strD ns a b c), some (.int m), none, none, none] = .rt (.int k) (some (strD ns' a' (b + 1) c') :: L') := by
  have s1 : runS V (.setx 0 [] (.int 2) (.p (.o2 .add (.o2 .ix (.var 0) (.int 2)) (.int 1)))) [some (strD ns a b c), some (.int m), none, none, none] = .nx (stL ns a (b + 1) c m none none none) := (setx4 (x := .int (b + 1)) ix4.2.2.1 rfl rfl rfl).trans rfl
  obtain ⟨ns', a', c', o, g1, g2, g3, g4⟩ := draw_loop (V := V) m (b + 1) none none ns V.N a c none hN ha hc
  unfold drawBody
  rw [runs_cons, s1]
  simp only [RS.seq]
  rw [runs_cons, run_whl, g4]
  simp only [RS.seq]
  have lm : m.natAbs.log2 < 9000 := Nat.lt_of_lt_of_le (log2_lt (k := 32) (by decide) (by omega)) (by decide)
  have e1 : ∀ (p q : Ss), runS V (.ifs (.p (.o2 .gt (.o2 .ix (.var 0) (.int 1)) (.int 0))) p q) (stL ns' a' (b + 1) c' m none o none) = if 0 < a' then runSs V p (stL ns' a' (b + 1) c' m none o none) else runSs V q (stL ns' a' (b + 1) c' m none o none) := by
    intro p q
    rw [run_ifs, rdW_p]
    have : pur V.G (.o2 .gt (.o2 .ix (.var 0) (.int 1)) (.int 0)) (stL ns' a' (b + 1) c' m none o none) = some (.bl (decide (0 < a'))) := rfl
    rw [this]
    by_cases h : 0 < a' <;> simp [Res.seq, Res.of, tru, h]
  rw [runs_cons, e1]
  by_cases h : 0 < a'
  · rw [if_pos h]
    refine ⟨ns', a'.fdiv m, c', [some (.int m), none, o, none], a'.fmod m, g1, ?_, g3, ⟨Int.fmod_nonneg (by omega) (by omega), Int.fmod_lt_of_pos _ hm.1⟩, ?_⟩
    · rw [Int.fdiv_eq_ediv_of_nonneg _ (by omega)]; exact Int.ediv_nonneg (by omega) (by omega)
    · have hm0 : m ≠ 0 := by omega
      have s2 : runS V (.asg (.nm 4) (.p (.o2 .mod (.o1 .int1 (.o2 .ix (.var 0) (.int 1))) (.var 1)))) (stL ns' a' (b + 1) c' m none o none) = .nx (stL ns' a' (b + 1) c' m none o (some (.int (a'.fmod m)))) := by
        exact (asgP (x := .int (a'.fmod m)) ((pur2 (d := .int a') (e := .int m) rfl rfl).trans (ap_mod hm0)) rfl).trans rfl
      have s3 : runS V (.setx 0 [] (.int 1) (.p (.o2 .fdiv (.o2 .ix (.var 0) (.int 1)) (.var 1)))) (stL ns' a' (b + 1) c' m none o (some (.int (a'.fmod m)))) = .nx (stL ns' (a'.fdiv m) (b + 1) c' m none o (some (.int (a'.fmod m)))) := by
        exact (setx4 (x := .int (a'.fdiv m)) ix4.2.1 rfl ((pur2 (d := .int a') (e := .int m) rfl rfl).trans (ap_fdiv ⟨hm0, lm⟩)) rfl).trans rfl
      rw [runs_cons, s2]
      simp only [RS.seq]
      rw [runs_cons, s3]
      simp only [RS.seq]
      rw [runs_cons, run_ret, den_mv]
      rfl
  · rw [if_neg h, runs_nil]
    simp only [RS.seq]
    refine ⟨ns', a', c', [some (.int m), some (.int (((c' + 7919 * (b + 1) + 104729) ^ 5).fmod 2147483629)), o, none], (((((c' + 7919 * (b + 1) + 104729) ^ 5).fmod 2147483629) * 48271 + 30011 * (b + 1) + 29) ^ 3).fmod 1000000007 |>.fmod m, g1, g2, g3, ⟨Int.fmod_nonneg (Int.fmod_nonneg ?_ (by decide)) (by omega), Int.fmod_lt_of_pos _ hm.1⟩, ?_⟩
    · have h1 : 0 ≤ ((c' + 7919 * (b + 1) + 104729) ^ 5).fmod 2147483629 := Int.fmod_nonneg (Int.pow_nonneg (by omega)) (by decide)
      exact Int.pow_nonneg (by omega)
    · have hm0 : m ≠ 0 := by omega
      have hbig : (c' + 7919 * (b + 1) + 104729).natAbs < pow64 := Nat.lt_of_lt_of_le (show _ < 2 ^ 63 by omega) (by decide)
      have hx0 : 0 ≤ ((c' + 7919 * (b + 1) + 104729) ^ 5).fmod 2147483629 := Int.fmod_nonneg (Int.pow_nonneg (by omega)) (by decide)
      have hx1 : ((c' + 7919 * (b + 1) + 104729) ^ 5).fmod 2147483629 < 2147483629 := Int.fmod_lt_of_pos _ (by decide)
      have t1 : (7919 : Int).natAbs.log2 + (b + 1).natAbs.log2 < 1000000 := by
        have h1 : (7919 : Int).natAbs.log2 = 12 := by decide
        have h2 : (b + 1).natAbs.log2 < 32 := log2_lt (by decide) (by omega)
        omega
      have t2 : (30011 : Int).natAbs.log2 + (b + 1).natAbs.log2 < 1000000 := by
        have h1 : (30011 : Int).natAbs.log2 = 14 := by decide
        have h2 : (b + 1).natAbs.log2 < 32 := log2_lt (by decide) (by omega)
        omega
      have s2 : runS V (.asg (.nm 2) (.p (.o2 .mod (.o1 .int1 (.o2 .pow (.o2 .add (.o2 .add (.o2 .ix (.var 0) (.int 3)) (.o2 .mul (.int 7919) (.o2 .ix (.var 0) (.int 2)))) (.int 104729)) (.int 5))) (.int 2147483629)))) (stL ns' a' (b + 1) c' m none o none) = .nx (stL ns' a' (b + 1) c' m (some (.int (((c' + 7919 * (b + 1) + 104729) ^ 5).fmod 2147483629))) o none) := by
        refine (asgP (x := .int (((c' + 7919 * (b + 1) + 104729) ^ 5).fmod 2147483629)) ((pur2 (d := .int ((c' + 7919 * (b + 1) + 104729) ^ 5)) (e := .int 2147483629) ((pur1 (d := .int ((c' + 7919 * (b + 1) + 104729) ^ 5)) ?_).trans rfl) rfl).trans (ap_mod (by decide))) rfl).trans rfl
        refine (pur2 (d := .int (c' + 7919 * (b + 1) + 104729)) (e := .int 5) ?_ rfl).trans (ap_pow ⟨by decide, by decide, hbig⟩)
        refine (pur2 (d := .int (c' + 7919 * (b + 1))) (e := .int 104729) ?_ rfl).trans rfl
        refine (pur2 (d := .int c') (e := .int (7919 * (b + 1))) rfl ?_).trans rfl
        exact (pur2 (d := .int 7919) (e := .int (b + 1)) rfl rfl).trans (ap_mul t1)
      rw [runs_cons, s2]
      simp only [RS.seq]
      rw [runs_cons, run_ret, den_p]
      generalize ((c' + 7919 * (b + 1) + 104729) ^ 5).fmod 2147483629 = x at hx0 hx1
      have t3 : x.natAbs.log2 + (48271 : Int).natAbs.log2 < 1000000 := by
        have h1 : (48271 : Int).natAbs.log2 = 15 := by decide
        have h2 : x.natAbs.log2 < 32 := log2_lt (by decide) (by omega)
        omega
      have hbig2 : (x * 48271 + 30011 * (b + 1) + 29).natAbs < pow64 := Nat.lt_of_lt_of_le (show _ < 2 ^ 63 by omega) (by decide)
      have e : pur V.G (.o2 .mod (.o2 .mod (.o1 .int1 (.o2 .pow (.o2 .add (.o2 .add (.o2 .mul (.var 2) (.int 48271)) (.o2 .mul (.int 30011) (.o2 .ix (.var 0) (.int 2)))) (.int 29)) (.int 3))) (.int 1000000007)) (.var 1)) (stL ns' a' (b + 1) c' m (some (.int x)) o none) = some (.int ((((x * 48271 + 30011 * (b + 1) + 29) ^ 3).fmod 1000000007).fmod m)) := by
        refine (pur2 (d := .int (((x * 48271 + 30011 * (b + 1) + 29) ^ 3).fmod 1000000007)) (e := .int m) ?_ rfl).trans (ap_mod hm0)
        refine (pur2 (d := .int ((x * 48271 + 30011 * (b + 1) + 29) ^ 3)) (e := .int 1000000007) ((pur1 (d := .int ((x * 48271 + 30011 * (b + 1) + 29) ^ 3)) ?_).trans rfl) rfl).trans (ap_mod (by decide))
        refine (pur2 (d := .int (x * 48271 + 30011 * (b + 1) + 29)) (e := .int 3) ?_ rfl).trans (ap_pow ⟨by decide, by decide, hbig2⟩)
        refine (pur2 (d := .int (x * 48271 + 30011 * (b + 1))) (e := .int 29) ?_ rfl).trans rfl
        refine (pur2 (d := .int (x * 48271)) (e := .int (30011 * (b + 1))) ?_ ?_).trans rfl
        · exact (pur2 (d := .int x) (e := .int 48271) rfl rfl).trans (ap_mul t3)
        · exact (pur2 (d := .int 30011) (e := .int (b + 1)) rfl rfl).trans (ap_mul t2)
      simp only [keepP, e, D.noOwn, if_true, Res.seq]
      rfl
end
end Q

namespace Q
open PySem L2 PySem.Spec
/-! ## _law_same -/
def nSame : Str := Str.ofString "_law_same"
def sameBody : Ss :=
 (.cons (.ifs (.p (.o1 (.isi ["list", "tuple"]) (.var 1)))
 (.cons (.ifs (.p (.or (.o2 .ne (.o1 (.isi ["list"]) (.var 0)) (.o1 (.isi ["list"]) (.var 1))) (.o2 .ne (.o1 (.isi ["tuple"]) (.var 0)) (.o1 (.isi ["tuple"]) (.var 1)))))
 (.cons (.ret (.p (.bl false)))
 .nil)
 .nil)
 (.cons (.ret (.and (.p (.o2 .eq (.o1 .len (.var 0)) (.o1 .len (.var 1)))) (.sq .all (.lc [2, 3] (.tup [2, 3]) (.zip (.p (.var 0)) (.p (.var 1))) .nil (.call nSame [] (.cons (.p (.var 2)) (.cons (.p (.var 3)) .nil)))))))
 .nil))
 .nil)
 (.cons (.ifs (.p (.o1 (.isi ["dict"]) (.var 1)))
 (.cons .nev
 .nil)
 .nil)
 (.cons (.ifs (.p (.or (.o1 (.isi ["bool"]) (.var 1)) (.o1 (.isi ["bool"]) (.var 0))))
 (.cons (.ret (.p (.and (.o1 (.isi ["bool"]) (.var 1)) (.and (.o1 (.isi ["bool"]) (.var 0)) (.o2 .eq (.var 0) (.var 1))))))
 .nil)
 .nil)
 (.cons (.ifs (.p (.or (.o1 .isN (.var 1)) (.o1 .isN (.var 0))))
 (.cons (.ret (.p (.and (.o1 .isN (.var 1)) (.o1 .isN (.var 0)))))
 .nil)
 .nil)
 (.cons (.ifs (.p (.or (.o2 .ne (.o1 (.isi ["int"]) (.var 1)) (.o1 (.isi ["int"]) (.var 0))) (.o2 .ne (.o1 (.isi ["str"]) (.var 1)) (.o1 (.isi ["str"]) (.var 0)))))
 (.cons (.ret (.p (.bl false)))
 .nil)
 .nil)
 (.cons (.ret (.p (.and (.o1 .not (.o1 (.isi ["list", "tuple", "dict"]) (.var 0))) (.o2 .eq (.var 0) (.var 1)))))
 .nil))))))
/-- data that are the same, k deep -/
def sm : Nat → D → D → Bool
  | 0, _, _ => false
  | k + 1, d, e => match d, e with
    | .int i, .int j => decide (i = j)
    | .bl a, .bl b => a == b
    | .non, .non => true
    | .tup xs, .tup ys => decide (xs.length = ys.length) && (xs.zip ys).all fun p => sm k p.1 p.2
    | .lst _ xs, .lst _ ys => decide (xs.length = ys.length) && (xs.zip ys).all fun p => sm k p.1 p.2
    | _, _ => false
section
variable {V : EnvQ} {L : Lcs}
/-- a test of a pure thing -/
theorem ifsP {p : P} {a b : Ss} {k : Bool} (h : pur V.G p L = some (.bl k)) : runS V (.ifs (.p p) a b) L = if k then runSs V a L else runSs V b L := by
  rw [run_ifs, rdW_p, h]; rfl
theorem retP {p : P} {x : D} (h : pur V.G p L = some x) (hx : x.noOwn = true) : runS V (.ret (.p p)) L = .rt x L := by
  rw [run_ret, den_p]
  simp only [keepP, h, hx, if_true, Res.seq]
theorem ret_and {a b : E} {L1 L2 : Lcs} {k : Bool} (h1 : rdW V a (fun L => den V a L) L = .ok (.bl true, L1)) (h2 : rdW V b (fun L => den V b L) L1 = .ok (.bl k, L2)) : runS V (.ret (.and a b)) L = .rt (.bl k) L2 := by
  rw [run_ret, den_and, h1]
  show (((rdW V b (fun L => den V b L) L1).bind _)).seq _ = _
  rw [h2]; rfl
theorem ret_andE {a b : E} {L1 L2 : Lcs} {k : Bool} (hb : isP b = false) (h1 : rdW V a (fun L => den V a L) L = .ok (.bl true, L1)) (h2 : den V b L1 = .ok (.bl k, L2)) : runS V (.ret (.and a b)) L = .rt (.bl k) L2 := by
  refine ret_and h1 ?_
  cases b <;> first | exact h2 | (simp [isP] at hb)
def notVar : E → Bool
  | .p (.var _) => false
  | _ => true
theorem arg_bor {i : Nat} {d : D} {ms : List Bool} {es : Es} {as : List Arg} {L2 : Lcs} (hm : ms.headD false = false) (h : L[i]? = some (some d)) (h2 : args V ms.tail es L = .ok (as, L2)) : args V ms (.cons (.p (.var i)) es) L = .ok (.bor i :: as, L2) := by
  rw [args_cons, hm]
  have : argW false (.p (.var i)) (fun L => den V (.p (.var i)) L) L = .ok (.bor i, L) := by unfold argW; simp only [h]
  rw [this]
  show ((args V ms.tail es L).bind _) = _
  rw [h2]; rfl
theorem arg_io {i : Nat} {d : D} {ms : List Bool} {es : Es} {as : List Arg} {L2 : Lcs} (hm : ms.headD false = true) (h : L[i]? = some (some d)) (h2 : args V ms.tail es L = .ok (as, L2)) : args V ms (.cons (.p (.var i)) es) L = .ok (.io i :: as, L2) := by
  rw [args_cons, hm]
  have : argW true (.p (.var i)) (fun L => den V (.p (.var i)) L) L = .ok (.io i, L) := by unfold argW; simp only [h]
  rw [this]
  show ((args V ms.tail es L).bind _) = _
  rw [h2]; rfl
theorem arg_val {e : E} {d : D} {ms : List Bool} {es : Es} {as : List Arg} {L1 L2 : Lcs} (hm : ms.headD false = false) (hv : notVar e = true) (h : den V e L = .ok (d, L1)) (h2 : args V ms.tail es L1 = .ok (as, L2)) : args V ms (.cons e es) L = .ok (.val d :: as, L2) := by
  rw [args_cons, hm]
  have : argW false e (fun L => den V e L) L = .ok (.val d, L1) := by
    unfold argW
    cases e with
    | p p => cases p <;> first | (simp [notVar] at hv; done) | (simp only [h, Res.bind])
    | _ => simp only [h, Res.bind]
  rw [this]
  show ((args V ms.tail es L1).bind _) = _
  rw [h2]; rfl
theorem same_int (i : Int) : runSs V sameBody [some (.int i), some (.int i), none, none] = .rt (.bl true) [some (.int i), some (.int i), none, none] := by
  unfold sameBody
  rw [runs_cons, ifsP (k := false) rfl]
  simp only [Bool.false_eq_true, if_false, runs_nil, RS.seq]
  rw [runs_cons, ifsP (k := false) rfl]
  simp only [Bool.false_eq_true, if_false, runs_nil, RS.seq]
  rw [runs_cons, ifsP (k := false) rfl]
  simp only [Bool.false_eq_true, if_false, runs_nil, RS.seq]
  rw [runs_cons, ifsP (k := false) rfl]
  simp only [Bool.false_eq_true, if_false, runs_nil, RS.seq]
  rw [runs_cons, ifsP (k := false) rfl]
  simp only [Bool.false_eq_true, if_false, runs_nil, RS.seq]
  have e : pur V.G (.and (.o1 .not (.o1 (.isi ["list", "tuple", "dict"]) (.var 0))) (.o2 .eq (.var 0) (.var 1))) [some (.int i), some (.int i), none, none] = some (.bl true) := by
    have : pur V.G (.o2 .eq (.var 0) (.var 1)) [some (.int i), some (.int i), none, none] = some (.bl (decide (i = i))) := rfl
    rw [decide_eq_true rfl] at this
    exact this
  rw [runs_cons, retP e rfl]
  rfl
theorem same_bl (i : Bool) : runSs V sameBody [some (.bl i), some (.bl i), none, none] = .rt (.bl true) [some (.bl i), some (.bl i), none, none] := by
  unfold sameBody
  rw [runs_cons, ifsP (k := false) rfl]
  simp only [Bool.false_eq_true, if_false, runs_nil, RS.seq]
  rw [runs_cons, ifsP (k := false) rfl]
  simp only [Bool.false_eq_true, if_false, runs_nil, RS.seq]
  rw [runs_cons, ifsP (k := true) rfl]
  simp only [if_true]
  rw [runs_cons, retP (x := .bl true) (by cases i <;> rfl) rfl]
  rfl
theorem same_non : runSs V sameBody [some .non, some .non, none, none] = .rt (.bl true) [some .non, some .non, none, none] := by
  unfold sameBody
  rw [runs_cons, ifsP (k := false) rfl]
  simp only [Bool.false_eq_true, if_false, runs_nil, RS.seq]
  rw [runs_cons, ifsP (k := false) rfl]
  simp only [Bool.false_eq_true, if_false, runs_nil, RS.seq]
  rw [runs_cons, ifsP (k := false) rfl]
  simp only [Bool.false_eq_true, if_false, runs_nil, RS.seq]
  rw [runs_cons, ifsP (k := true) rfl]
  simp only [if_true]
  rw [runs_cons, retP (x := .bl true) rfl rfl]
  rfl
theorem zip2_map : ∀ xs ys : List D, zip2D xs ys = (xs.zip ys).map fun p => D.tup [p.1, p.2]
  | [], ys => by cases ys <;> rfl
  | x :: xs, [] => rfl
  | x :: xs, y :: ys => by simp [zip2D, zip2_map xs ys]
theorem bools_true {α : Type} : ∀ xs : List α, bools? (xs.map fun _ => D.bl true) = some (xs.map fun _ => true)
  | [] => rfl
  | x :: xs => by simp [bools?, bools_true xs]
/-- two lists or two tuples -/
theorem same_seq {d e : D} {xs ys : List D} (hd : d.fz = d) (he : e.fz = e) (nd : d.noOwn = true) (ne : e.noOwn = true) (hz : zipRun d e = some (zip2D xs ys)) (hn : ∀ x ∈ xs, x.fz = x ∧ x.noOwn = true) (hm : ∀ x ∈ ys, x.fz = x ∧ x.noOwn = true) (hl : ap1 .len d = some (.int xs.length)) (hl2 : ap1 .len e = some (.int xs.length))
    (t1 : pur V.G (.o1 (.isi ["list", "tuple"]) (.var 1)) [some d, some e, none, none] = some (.bl true))
    (t2 : pur V.G (.or (.o2 .ne (.o1 (.isi ["list"]) (.var 0)) (.o1 (.isi ["list"]) (.var 1))) (.o2 .ne (.o1 (.isi ["tuple"]) (.var 0)) (.o1 (.isi ["tuple"]) (.var 1)))) [some d, some e, none, none] = some (.bl false))
    (md : V.md nSame = []) (ar : V.ar nSame = [Str.ofString "found", Str.ofString "due"]) (hc : ∀ p ∈ xs.zip ys, V.call nSame [p.1, p.2] = .ok (.bl true, [])) :
    ∃ L', runSs V sameBody [some d, some e, none, none] = .rt (.bl true) L' := by
  unfold sameBody
  rw [runs_cons, ifsP t1]
  simp only [if_true]
  rw [runs_cons, ifsP t2]
  simp only [Bool.false_eq_true, if_false, runs_nil, RS.seq]
  have e1 : pur V.G (.o2 .eq (.o1 .len (.var 0)) (.o1 .len (.var 1))) [some d, some e, none, none] = some (.bl true) := by
    refine (pur2 ((pur1 (d := d) rfl).trans hl) ((pur1 (d := e) rfl).trans hl2)).trans ?_
    simp [ap2, eqD]
  have e2 : src V (.zip (.p (.var 0)) (.p (.var 1))) [some d, some e, none, none] = .ok (zip2D xs ys, [some d, some e, none, none]) := by
    rw [src_zip, den_p]
    have k1 : keepP V.G (.var 0) [some d, some e, none, none] = .ok (d, [some d, some e, none, none]) := by simp [keepP, pur, nd]
    have k2 : keepP V.G (.var 1) [some d, some e, none, none] = .ok (e, [some d, some e, none, none]) := by simp [keepP, pur, ne]
    rw [k1]
    simp only [Res.bind]
    rw [den_p, k2]
    simp only [Res.bind, hd, he, hz, Res.of]
  obtain ⟨Lf, e3, e4⟩ := lcRun_pure (tg := .tup [2, 3]) (vs := [2, 3]) (cond := fun L => conds V .nil L) (elt := fun L => den V (.call nSame [] (.cons (.p (.var 2)) (.cons (.p (.var 3)) .nil))) L) (fun p : D × D => .tup [p.1, p.2]) (fun _ => true) (fun _ => .bl true) [some d, some e, none, none] (xs.zip ys) [some d, some e, none, none] rfl (fun p hp => by
    have m1 := hn p.1 (List.of_mem_zip hp).1
    have m2 := hm p.2 (List.of_mem_zip hp).2
    refine ⟨[some d, some e, some p.1, some p.2], rfl, rfl, by rw [conds_nil], fun _ => ?_⟩
    rw [den_call, md, arg_bor (d := p.1) rfl rfl (arg_bor (d := p.2) rfl rfl (args_nil V _ _))]
    simp only [Res.bind, ar, List.length_cons, List.length_nil, if_true]
    unfold callRun
    have v1 : argVals [.bor 2, .bor 3] [some d, some e, some p.1, some p.2] = some ([p.1, p.2], [some d, some e, some p.1, some p.2]) := by
      simp [argVals, m1.1, m2.1]
    rw [v1]
    have v2 : lentOk [.bor 2, .bor 3] [some d, some e, some p.1, some p.2] = true := rfl
    simp only [v2, if_true, hc p hp, D.noSh, outNoSh, Bool.and_self, putBack])
  rw [zip2_map] at e2
  have ft : (xs.zip ys).filter (fun _ => true) = xs.zip ys := List.filter_eq_self.mpr fun _ _ => rfl
  have e5 : den V (.sq .all (.lc [2, 3] (.tup [2, 3]) (.zip (.p (.var 0)) (.p (.var 1))) .nil (.call nSame [] (.cons (.p (.var 2)) (.cons (.p (.var 3)) .nil))))) [some d, some e, none, none] = .ok (.bl true, resetTo [some d, some e, none, none] (wipeL Lf [2, 3]) [2, 3]) := by
    rw [den_sq]
    show ((den V (.lc [2, 3] (.tup [2, 3]) (.zip (.p (.var 0)) (.p (.var 1))) .nil (.call nSame [] (.cons (.p (.var 2)) (.cons (.p (.var 3)) .nil)))) [some d, some e, none, none]).bind _) = _
    rw [den_lc, e2]
    simp only [Res.bind, e3, ft, apS, bools_true]
    simp [Res.of]
  refine ⟨resetTo [some d, some e, none, none] (wipeL Lf [2, 3]) [2, 3], ?_⟩
  rw [runs_cons, ret_andE (L1 := [some d, some e, none, none]) (k := true) rfl (by rw [rdW_p, e1]) e5]
  rfl
theorem noOwns_mem {ds : List D} (h : D.noOwns ds = true) : ∀ x ∈ ds, x.noOwn = true := fun x hx => by
  rw [noOwns_eq] at h
  exact List.all_eq_true.mp h x hx
theorem fzs_mem {ds : List D} (h : D.fzs ds = ds) : ∀ x ∈ ds, x.fz = x := fun x hx => by
  rw [fzs_eq] at h
  obtain ⟨i, hi, rfl⟩ := List.getElem_of_mem hx
  have := congrArg (fun l => l[i]?) h
  simpa [hi] using this
/-- the same things are told to be the same -/
theorem same_ok : ∀ (k : Nat) {d e : D} {T : Tab} {G : Str → Option D} {N m : Nat} {fn : FnD}, k ≤ m → T.lookup nSame = some fn → fn.prim = none → fn.md = [] → fn.ps = [Str.ofString "found", Str.ofString "due"] → fn.N.length = 4 → fn.body = sameBody → d.fz = d → e.fz = e → d.noOwn = true → e.noOwn = true → sm k d e = true →
    (envN T G N m).call nSame [d, e] = .ok (.bl true, [])
  | 0, d, e, T, G, N, m, fn, _, _, _, _, _, _, _, _, _, _, _, h => by simp [sm] at h
  | k + 1, d, e, T, G, N, m, fn, hk, hT, hp, hmd, hps, hN, hb, fd, fe, nd, ne, h => by
    obtain ⟨m, rfl⟩ : ∃ j, m = j + 1 := ⟨m - 1, by omega⟩
    rw [envN_call hT]
    have hc : callF (envN T G N m) fn [d, e] = retF [] (runSs (envN T G N m) sameBody [some d, some e, none, none]) := by
      unfold callF
      rw [hp]
      simp only [slotsOf, hN, hmd, hb, List.map_cons, List.map_nil, List.length_cons, List.length_nil]
      rfl
    rw [hc]
    have fin : ∀ {L' : Lcs}, runSs (envN T G N m) sameBody [some d, some e, none, none] = .rt (.bl true) L' → retF [] (runSs (envN T G N m) sameBody [some d, some e, none, none]) = .ok (.bl true, []) := fun h => by
      rw [h]
      show Res.ok (D.bl true, ioOuts [] _) = _
      simp [ioOuts]
    have seq : ∀ {xs ys : List D}, D.fzs xs = xs → D.fzs ys = ys → D.noOwns xs = true → D.noOwns ys = true → (decide (xs.length = ys.length) && (xs.zip ys).all fun p => sm k p.1 p.2) = true → zipRun d e = some (zip2D xs ys) → ap1 .len d = some (.int xs.length) → ap1 .len e = some (.int ys.length) →
        pur (envN T G N m).G (.o1 (.isi ["list", "tuple"]) (.var 1)) [some d, some e, none, none] = some (.bl true) →
        pur (envN T G N m).G (.or (.o2 .ne (.o1 (.isi ["list"]) (.var 0)) (.o1 (.isi ["list"]) (.var 1))) (.o2 .ne (.o1 (.isi ["tuple"]) (.var 0)) (.o1 (.isi ["tuple"]) (.var 1)))) [some d, some e, none, none] = some (.bl false) →
        retF [] (runSs (envN T G N m) sameBody [some d, some e, none, none]) = .ok (.bl true, []) := by
      intro xs ys fx fy nx ny hs hz hl hl2 t1 t2
      simp only [Bool.and_eq_true, decide_eq_true_eq] at hs
      obtain ⟨L', e1⟩ := same_seq (V := envN T G N m) fd fe nd ne hz (fun x hx => ⟨fzs_mem fx x hx, noOwns_mem nx x hx⟩) (fun x hx => ⟨fzs_mem fy x hx, noOwns_mem ny x hx⟩) hl (by rw [hs.1]; exact hl2) t1 t2 (by rw [envN_md hT, hmd]) (by rw [envN_ar hT, hps]) fun p hp2 => by
        have m1 := (List.of_mem_zip hp2).1
        have m2 := (List.of_mem_zip hp2).2
        exact same_ok k (by omega) hT hp hmd hps hN hb (fzs_mem fx _ m1) (fzs_mem fy _ m2) (noOwns_mem nx _ m1) (noOwns_mem ny _ m2) (List.all_eq_true.mp hs.2 p hp2)
      exact fin e1
    cases d <;> cases e <;> simp only [sm, Bool.false_eq_true] at h
    · exact fin same_non
    · have : _ = _ := eq_of_beq h
      subst this
      exact fin (same_bl _)
    · have : _ = _ := of_decide_eq_true h
      subst this
      exact fin (same_int _)
    · rename_i xs ys
      exact seq (by simpa [D.fz] using fd) (by simpa [D.fz] using fe) (by simpa [D.noOwn] using nd) (by simpa [D.noOwn] using ne) h rfl rfl rfl rfl rfl
    · rename_i o xs o2 ys
      have h1 : o = false ∧ D.fzs xs = xs := by simpa [D.fz, eq_comm] using fd
      have h2 : o2 = false ∧ D.fzs ys = ys := by simpa [D.fz, eq_comm] using fe
      obtain ⟨rfl, h1⟩ := h1
      obtain ⟨rfl, h2⟩ := h2
      exact seq h1 h2 (by simpa [D.noOwn] using nd) (by simpa [D.noOwn] using ne) h rfl rfl rfl rfl rfl
end
end Q

namespace Q
open PySem L2 PySem.Spec
/-! ## fractions -/
abbrev nD (n : Nat) : D := .int (n : Int)
abbrev fD (p : Nat × Nat) : D := .tup [nD p.1, nD p.2]
theorem fmod_nat (a b : Nat) : ((a : Int)).fmod (b : Int) = ((a % b : Nat) : Int) := by
  rw [Int.fmod_eq_emod_of_nonneg _ (by omega)]; rfl
theorem fdiv_nat (a b : Nat) : ((a : Int)).fdiv (b : Int) = ((a / b : Nat) : Int) := by
  rw [Int.fdiv_eq_ediv_of_nonneg _ (by omega)]; rfl
section
variable {V : EnvQ} {L : Lcs}
theorem call_rt {T : Tab} {G : Str → Option D} {N m : Nat} {f : Str} {fn : FnD} {ds : List D} {d : D} {L' : Lcs} (hT : T.lookup f = some fn) (hp : fn.prim = none) (hmd : fn.md = []) (h : runSs (envN T G N m) fn.body (slotsOf fn.N ds) = .rt d L') : (envN T G N (m + 1)).call f ds = .ok (d, []) := by
  rw [envN_call hT]
  unfold callF
  rw [hp]
  simp only [h, hmd, retF]
  cases L' <;> rfl
theorem call_nx {T : Tab} {G : Str → Option D} {N m : Nat} {f : Str} {fn : FnD} {ds : List D} {L' : Lcs} (hT : T.lookup f = some fn) (hp : fn.prim = none) (hmd : fn.md = []) (h : runSs (envN T G N m) fn.body (slotsOf fn.N ds) = .nx L') : (envN T G N (m + 1)).call f ds = .ok (.non, []) := by
  rw [envN_call hT]
  unfold callF
  rw [hp]
  simp only [h, hmd, retF]
  cases L' <;> rfl
theorem nx_cons {s : S} {ss : Ss} {L1 : Lcs} (h : runS V s L = .nx L1) : runSs V (.cons s ss) L = runSs V ss L1 := by rw [runs_cons, h]; rfl
theorem rt_cons {s : S} {ss : Ss} {L1 : Lcs} {d : D} (h : runS V s L = .rt d L1) : runSs V (.cons s ss) L = .rt d L1 := by rw [runs_cons, h]; rfl
theorem tstP {p : P} {d : D} {k : Bool} (h : pur V.G p L = some d) (h2 : tru d = some k) : tst V (.p p) L = .ok (k, L) := by
  unfold tst
  rw [rdW_p, h]
  simp only [Res.bind, h2, Res.of]
theorem absN (n : Nat) {p : P} (h : pur V.G p L = some (nD n)) : pur V.G (.o1 .abs p) L = some (nD n) := by
  rw [pur1 h]
  simp only [ap1]
  rw [if_neg (by omega)]
theorem par2 {i j : Nat} {p q : P} {d e : D} (hp : pur V.G p L = some d) (hq : pur V.G q L = some e) (nd : d.noOwn = true) (ne : e.noOwn = true) : runS V (.par [i, j] (.cons (.p p) (.cons (.p q) .nil))) L = .nx ((L.set i (some d)).set j (some e)) := by
  rw [run_par, dens_cons, den_p]
  have k1 : keepP V.G p L = .ok (d, L) := by simp [keepP, hp, nd]
  have k2 : keepP V.G q L = .ok (e, L) := by simp [keepP, hq, ne]
  rw [k1]
  simp only [Res.bind]
  rw [dens_cons, den_p, k2]
  simp only [Res.bind]
  rw [dens_nil]
  rfl

/-! ### the greatest divisor, by the program and by the law -/
def gcdBody : Ss :=
 (.cons (.par [0, 1] (.cons (.p (.o1 .abs (.var 0))) (.cons (.p (.o1 .abs (.var 1))) .nil)))
 (.cons (.whl (.p (.var 1))
 (.cons (.par [0, 1] (.cons (.p (.var 1)) (.cons (.p (.o2 .mod (.var 0) (.var 1))) .nil)))
 .nil))
 (.cons (.ret (.mv 0))
 .nil)))
theorem gcd_loop : ∀ (b a fuel : Nat), b < fuel → whlRun (fun L => tst V (.p (.var 1)) L) (fun L => runSs V (.cons (.par [0, 1] (.cons (.p (.var 1)) (.cons (.p (.o2 .mod (.var 0) (.var 1))) .nil))) .nil) L) fuel [some (nD a), some (nD b)] = .nx [some (nD (Nat.gcd a b)), some (nD 0)] := by
  intro b
  induction b using Nat.strongRecOn with
  | ind b ih =>
    intro a fuel hf
    obtain ⟨f, rfl⟩ : ∃ f, fuel = f + 1 := ⟨fuel - 1, by omega⟩
    rw [whlRun_succ]
    have ht : tst V (.p (.var 1)) [some (nD a), some (nD b)] = .ok (decide (b ≠ 0), [some (nD a), some (nD b)]) := by
      refine tstP (d := nD b) rfl ?_
      simp only [tru]
      by_cases h : b = 0
      · subst h; rfl
      · have : (b : Int) ≠ 0 := by omega
        simp [h]
    rw [ht]
    by_cases h : b = 0
    · subst h
      simp [Res.seq]
    · have hb : (b : Int) ≠ 0 := by omega
      simp only [Res.seq, h, ne_eq, not_false_eq_true, decide_true, if_true]
      rw [nx_cons (par2 (d := nD b) (e := nD (a % b)) rfl ((pur2 (d := nD a) (e := nD b) rfl rfl).trans ((ap_mod hb).trans (by rw [fmod_nat]))) rfl rfl), runs_nil]
      simp only [stepR]
      have hlt : a % b < b := Nat.mod_lt _ (by omega)
      have := ih (a % b) hlt b f (by omega)
      rw [show (([some (nD a), some (nD b)] : Lcs).set 0 (some (nD b))).set 1 (some (nD (a % b))) = [some (nD b), some (nD (a % b))] from rfl, this]
      have : Nat.gcd b (a % b) = Nat.gcd a b := by rw [Nat.gcd_comm a b, Nat.gcd_rec b a, Nat.gcd_comm]
      rw [this]
theorem gcd_run {a b : Nat} (hb : b < V.N) : runSs V gcdBody [some (nD a), some (nD b)] = .rt (nD (Nat.gcd a b)) [none, some (nD 0)] := by
  unfold gcdBody
  rw [nx_cons (par2 (d := nD a) (e := nD b) (absN a rfl) (absN b rfl) rfl rfl)]
  rw [nx_cons (L1 := [some (nD (Nat.gcd a b)), some (nD 0)]) (by rw [run_whl]; exact gcd_loop b a V.N hb)]
  rw [rt_cons (d := nD (Nat.gcd a b)) (L1 := [none, some (nD 0)]) (by rw [run_ret, den_mv]; rfl)]
def fracBody : Ss :=
 (.cons (.par [3, 4] (.cons (.p (.o1 .abs (.var 0))) (.cons (.p (.o1 .abs (.var 1))) .nil)))
 (.cons (.whl (.p (.o2 .gt (.var 4) (.int 0)))
 (.cons (.par [3, 4] (.cons (.p (.var 4)) (.cons (.p (.o2 .mod (.o1 .int1 (.var 3)) (.var 4))) .nil)))
 .nil))
 (.cons (.asg (.nm 2) (.ife (.p (.o2 .gt (.var 1) (.int 0))) (.p (.int 1)) (.p (.o1 .neg (.int 1)))))
 (.cons (.ret (.tup (.cons (.p (.o2 .fdiv (.o2 .mul (.var 2) (.var 0)) (.var 3))) (.cons (.p (.o2 .fdiv (.o2 .mul (.var 2) (.var 1)) (.var 3))) .nil))))
 .nil))))
theorem frac_loop (x y : D) (o : Option D) : ∀ (b a fuel : Nat), b < fuel → whlRun (fun L => tst V (.p (.o2 .gt (.var 4) (.int 0))) L) (fun L => runSs V (.cons (.par [3, 4] (.cons (.p (.var 4)) (.cons (.p (.o2 .mod (.o1 .int1 (.var 3)) (.var 4))) .nil))) .nil) L) fuel [some x, some y, o, some (nD a), some (nD b)] = .nx [some x, some y, o, some (nD (Nat.gcd a b)), some (nD 0)] := by
  intro b
  induction b using Nat.strongRecOn with
  | ind b ih =>
    intro a fuel hf
    obtain ⟨f, rfl⟩ : ∃ f, fuel = f + 1 := ⟨fuel - 1, by omega⟩
    rw [whlRun_succ]
    have ht : tst V (.p (.o2 .gt (.var 4) (.int 0))) [some x, some y, o, some (nD a), some (nD b)] = .ok (decide (b ≠ 0), [some x, some y, o, some (nD a), some (nD b)]) := by
      refine tstP (d := .bl (decide ((0 : Int) < (b : Int)))) rfl ?_
      simp only [tru]
      by_cases h : b = 0
      · subst h; rfl
      · simp [h]; omega
    rw [ht]
    by_cases h : b = 0
    · subst h
      simp [Res.seq]
    · have hb : (b : Int) ≠ 0 := by omega
      simp only [Res.seq, h, ne_eq, not_false_eq_true, decide_true, if_true]
      rw [nx_cons (par2 (d := nD b) (e := nD (a % b)) rfl ((pur2 (d := nD a) (e := nD b) rfl rfl).trans ((ap_mod hb).trans (by rw [fmod_nat]))) rfl rfl), runs_nil]
      simp only [stepR]
      have hlt : a % b < b := Nat.mod_lt _ (by omega)
      have := ih (a % b) hlt b f (by omega)
      rw [show (([some x, some y, o, some (nD a), some (nD b)] : Lcs).set 3 (some (nD b))).set 4 (some (nD (a % b))) = [some x, some y, o, some (nD b), some (nD (a % b))] from rfl, this]
      have : Nat.gcd b (a % b) = Nat.gcd a b := by rw [Nat.gcd_comm a b, Nat.gcd_rec b a, Nat.gcd_comm]
      rw [this]
/-- in lowest terms -/
def rd (a b : Nat) : Nat × Nat := (a / Nat.gcd a b, b / Nat.gcd a b)
def big : Nat := 10 ^ 100
theorem big_log {n : Nat} (h : n < big) : ((n : Int)).natAbs.log2 < 400 := log2_lt (by decide) (Nat.lt_trans (show ((n : Int)).natAbs < big from h) (by decide))
theorem frac_run {a b : Nat} (hN : b < V.N) (hb : 0 < b) (ha : a < big) (hb2 : b < big) : ∃ L', runSs V fracBody [some (nD a), some (nD b), none, none, none] = .rt (fD (rd a b)) L' := by
  unfold fracBody
  rw [nx_cons (par2 (d := nD a) (e := nD b) (absN a rfl) (absN b rfl) rfl rfl)]
  rw [nx_cons (L1 := [some (nD a), some (nD b), none, some (nD (Nat.gcd a b)), some (nD 0)]) (by rw [run_whl]; exact frac_loop (nD a) (nD b) none b a V.N hN)]
  have hg : 0 < Nat.gcd a b := Nat.gcd_pos_of_pos_right _ hb
  have hg2 : Nat.gcd a b < big := Nat.lt_of_le_of_lt (Nat.le_of_dvd hb (Nat.gcd_dvd_right a b)) hb2
  have hg3 : ((Nat.gcd a b : Nat) : Int) ≠ 0 ∧ ((Nat.gcd a b : Nat) : Int).natAbs.log2 < 9000 := ⟨by omega, Nat.lt_trans (big_log hg2) (by decide)⟩
  have s1 : runS V (.asg (.nm 2) (.ife (.p (.o2 .gt (.var 1) (.int 0))) (.p (.int 1)) (.p (.o1 .neg (.int 1))))) [some (nD a), some (nD b), none, some (nD (Nat.gcd a b)), some (nD 0)] = .nx [some (nD a), some (nD b), some (.int 1), some (nD (Nat.gcd a b)), some (nD 0)] := by
    rw [run_asg, den_ife, rdW_p]
    have : pur V.G (.o2 .gt (.var 1) (.int 0)) [some (nD a), some (nD b), none, some (nD (Nat.gcd a b)), some (nD 0)] = some (.bl true) := by
      show some (D.bl (decide ((0 : Int) < (b : Int)))) = _
      rw [decide_eq_true (by omega)]
    rw [this]
    simp only [tru, Res.of, Res.bind, if_true]
    rw [den_p]; rfl
  rw [nx_cons s1]
  have one : ∀ (n : Nat), n < big → ((1 : Int)).natAbs.log2 + ((n : Int)).natAbs.log2 < 1000000 := fun n h => by
    have := big_log h
    have h1 : ((1 : Int)).natAbs.log2 = 0 := by decide
    omega
  have e1 : pur V.G (.o2 .fdiv (.o2 .mul (.var 2) (.var 0)) (.var 3)) [some (nD a), some (nD b), some (.int 1), some (nD (Nat.gcd a b)), some (nD 0)] = some (nD (rd a b).1) := by
    refine (pur2 (d := nD a) (e := nD (Nat.gcd a b)) ((pur2 (d := .int 1) (e := nD a) rfl rfl).trans ((ap_mul (one a ha)).trans (by rw [Int.one_mul]))) rfl).trans ((ap_fdiv hg3).trans ?_)
    rw [fdiv_nat]; rfl
  have e2 : pur V.G (.o2 .fdiv (.o2 .mul (.var 2) (.var 1)) (.var 3)) [some (nD a), some (nD b), some (.int 1), some (nD (Nat.gcd a b)), some (nD 0)] = some (nD (rd a b).2) := by
    refine (pur2 (d := nD b) (e := nD (Nat.gcd a b)) ((pur2 (d := .int 1) (e := nD b) rfl rfl).trans ((ap_mul (one b hb2)).trans (by rw [Int.one_mul]))) rfl).trans ((ap_fdiv hg3).trans ?_)
    rw [fdiv_nat]; rfl
  refine ⟨[some (nD a), some (nD b), some (.int 1), some (nD (Nat.gcd a b)), some (nD 0)], ?_⟩
  refine rt_cons ?_
  rw [run_ret, den_tup, dens_cons, den_p]
  simp only [keepP, e1, D.noOwn, if_true, Res.bind]
  rw [dens_cons, den_p]
  simp only [keepP, e2, D.noOwn, if_true, Res.bind]
  rw [dens_nil]
  rfl
/-- a call, its arguments lent or of their own, that changes nothing -/
theorem callOk {f : Str} {es : Es} {as : List Arg} {L1 : Lcs} {ds : List D} {d : D} (hmd : V.md f = []) (ha : args V [] es L = .ok (as, L1)) (hl : as.length = (V.ar f).length) (hv : argVals as L1 = some (ds, L1)) (ho : lentOk as L1 = true) (hc : V.call f ds = .ok (d, [])) (hd : d.noSh = true) (hp : putBack as [] L1 = some L1) : den V (.call f [] es) L = .ok (d, L1) := by
  rw [den_call, hmd, ha]
  simp only [Res.bind, hl, if_true]
  unfold callRun
  rw [hv]
  simp only [ho, if_true, hc, hd, outNoSh, Bool.and_self, hp]
theorem keepD {p : P} {d : D} (h : pur V.G p L = some d) (hn : d.noOwn = true) : den V (.p p) L = .ok (d, L) := by
  rw [den_p]
  simp [keepP, h, hn]
/-- two pure values, no names -/
theorem call2 {f : Str} {p q : P} {d e r : D} (hmd : V.md f = []) (har : (V.ar f).length = 2) (hp : pur V.G p L = some d) (hq : pur V.G q L = some e) (np : notVar (.p p) = true) (nq : notVar (.p q) = true) (nd : d.noOwn = true) (ne : e.noOwn = true) (fd : d.fz = d) (fe : e.fz = e) (hc : V.call f [d, e] = .ok (r, [])) (hr : r.noSh = true) : den V (.call f [] (.cons (.p p) (.cons (.p q) .nil))) L = .ok (r, L) :=
  callOk hmd (arg_val rfl np (keepD hp nd) (arg_val rfl nq (keepD hq ne) (args_nil V _ _))) (by rw [har]; rfl) (ds := [d, e]) (by simp [argVals, fd, fe]) rfl hc hr rfl
/-- two names -/
theorem call2v {f : Str} {i j : Nat} {d e r : D} (hmd : V.md f = []) (har : (V.ar f).length = 2) (hp : L[i]? = some (some d)) (hq : L[j]? = some (some e)) (fd : d.fz = d) (fe : e.fz = e) (hc : V.call f [d, e] = .ok (r, [])) (hr : r.noSh = true) : den V (.call f [] (.cons (.p (.var i)) (.cons (.p (.var j)) .nil))) L = .ok (r, L) :=
  callOk hmd (arg_bor rfl hp (arg_bor rfl hq (args_nil V _ _))) (by rw [har]; rfl) (ds := [d, e]) (by simp [argVals, hp, hq, fd, fe]) (by simp [lentOk, hp, hq]) hc hr rfl
theorem call2vp {f : Str} {i : Nat} {q : P} {d e r : D} (hmd : V.md f = []) (har : (V.ar f).length = 2) (hp : L[i]? = some (some d)) (hq : pur V.G q L = some e) (nq : notVar (.p q) = true) (ne : e.noOwn = true) (fd : d.fz = d) (fe : e.fz = e) (hc : V.call f [d, e] = .ok (r, [])) (hr : r.noSh = true) : den V (.call f [] (.cons (.p (.var i)) (.cons (.p q) .nil))) L = .ok (r, L) :=
  callOk hmd (arg_bor rfl hp (arg_val rfl nq (keepD hq ne) (args_nil V _ _))) (by rw [har]; rfl) (ds := [d, e]) (by simp [argVals, hp, fd, fe]) (by simp [lentOk, hp]) hc hr rfl
theorem call2pv {f : Str} {j : Nat} {p : P} {d e r : D} (hmd : V.md f = []) (har : (V.ar f).length = 2) (hp : pur V.G p L = some d) (hq : L[j]? = some (some e)) (np : notVar (.p p) = true) (nd : d.noOwn = true) (fd : d.fz = d) (fe : e.fz = e) (hc : V.call f [d, e] = .ok (r, [])) (hr : r.noSh = true) : den V (.call f [] (.cons (.p p) (.cons (.p (.var j)) .nil))) L = .ok (r, L) :=
  callOk hmd (arg_val rfl np (keepD hp nd) (arg_bor rfl hq (args_nil V _ _))) (by rw [har]; rfl) (ds := [d, e]) (by simp [argVals, hq, fd, fe]) (by simp [lentOk, hq]) hc hr rfl
/-- two values -/
theorem call2e {f : Str} {a b : E} {L1 L2 : Lcs} {d e r : D} (hmd : V.md f = []) (har : (V.ar f).length = 2) (na : notVar a = true) (nb : notVar b = true) (ha : den V a L = .ok (d, L1)) (hb : den V b L1 = .ok (e, L2)) (fd : d.fz = d) (fe : e.fz = e) (hc : V.call f [d, e] = .ok (r, [])) (hr : r.noSh = true) : den V (.call f [] (.cons a (.cons b .nil))) L = .ok (r, L2) :=
  callOk hmd (arg_val rfl na ha (arg_val rfl nb hb (args_nil V _ _))) (by rw [har]; rfl) (ds := [d, e]) (by simp [argVals, fd, fe]) rfl hc hr rfl
theorem call1v {f : Str} {i : Nat} {d r : D} (hmd : V.md f = []) (har : (V.ar f).length = 1) (hp : L[i]? = some (some d)) (fd : d.fz = d) (hc : V.call f [d] = .ok (r, [])) (hr : r.noSh = true) : den V (.call f [] (.cons (.p (.var i)) .nil)) L = .ok (r, L) :=
  callOk hmd (arg_bor rfl hp (args_nil V _ _)) (by rw [har]; rfl) (ds := [d]) (by simp [argVals, hp, fd]) (by simp [lentOk, hp]) hc hr rfl
theorem call1e {f : Str} {a : E} {L1 : Lcs} {d r : D} (hmd : V.md f = []) (har : (V.ar f).length = 1) (na : notVar a = true) (ha : den V a L = .ok (d, L1)) (hc : V.call f [d.fz] = .ok (r, [])) (hr : r.noSh = true) : den V (.call f [] (.cons a .nil)) L = .ok (r, L1) :=
  callOk hmd (arg_val rfl na ha (args_nil V _ _)) (by rw [har]; rfl) (ds := [d.fz]) (by simp [argVals]) rfl hc hr rfl
theorem retE {e : E} {d : D} {L1 : Lcs} (h : den V e L = .ok (d, L1)) : runS V (.ret e) L = .rt d L1 := by rw [run_ret, h]; rfl
theorem asgE {i : Nat} {e : E} {d : D} {L1 : Lcs} (h : den V e L = .ok (d, L1)) : runS V (.asg (.nm i) e) L = .nx (L1.set i (some d)) := by rw [run_asg, h]; rfl
theorem mulN {p q : P} {a b : Nat} (hp : pur V.G p L = some (nD a)) (hq : pur V.G q L = some (nD b)) (ha : a < big) (hb : b < big) : pur V.G (.o2 .mul p q) L = some (nD (a * b)) := by
  have h1 := big_log ha
  have h2 := big_log hb
  refine (pur2 hp hq).trans ((ap_mul (by omega)).trans ?_)
  rw [← Int.natCast_mul]
theorem addN {p q : P} {a b : Nat} (hp : pur V.G p L = some (nD a)) (hq : pur V.G q L = some (nD b)) : pur V.G (.o2 .add p q) L = some (nD (a + b)) := (pur2 hp hq).trans rfl
theorem tup2 {p q : P} {d e : D} (hp : pur V.G p L = some d) (hq : pur V.G q L = some e) (nd : d.noOwn = true) (ne : e.noOwn = true) : den V (.tup (.cons (.p p) (.cons (.p q) .nil))) L = .ok (.tup [d, e], L) := by
  rw [den_tup, dens_cons, keepD hp nd]
  simp only [Res.bind]
  rw [dens_cons, keepD hq ne]
  simp only [Res.bind]
  rw [dens_nil]
/-- a comprehension whose parts leave the names as they are -/
theorem lc_pure1 {vs : List Nat} {tg : Tg} {s : Src} {cs : Es} {e : E} {β : Type} {L1 : Lcs} (dx : β → D) (p : β → Bool) (f : β → D) (xs : List β) (hs : src V s L = .ok (xs.map dx, L1)) (h : ∀ x ∈ xs, ∃ L2, tg.set (dx x) (wipeL L1 vs) = some L2 ∧ wipeL L2 vs = wipeL L1 vs ∧ conds V cs L2 = .ok (p x, L2) ∧ (p x = true → den V e L2 = .ok (f x, L2))) :
    den V (.lc vs tg s cs e) L = .ok (.lst true ((xs.filter p).map f), resetTo L1 (wipeL L1 vs) vs) := by
  obtain ⟨Lf, e1, e2⟩ := lcRun_pure (tg := tg) (vs := vs) (cond := fun L => conds V cs L) (elt := fun L => den V e L) dx p f (wipeL L1 vs) xs L1 rfl h
  rw [den_lc, hs]
  simp only [Res.bind, e1, e2]
theorem lc_pure {vs : List Nat} {tg : Tg} {s : Src} {cs : Es} {e : E} {β : Type} (dx : β → D) (p : β → Bool) (f : β → D) (xs : List β) (hs : src V s L = .ok (xs.map dx, L)) (h : ∀ x ∈ xs, ∃ L1, tg.set (dx x) (wipeL L vs) = some L1 ∧ wipeL L1 vs = wipeL L vs ∧ conds V cs L1 = .ok (p x, L1) ∧ (p x = true → den V e L1 = .ok (f x, L1))) :
    den V (.lc vs tg s cs e) L = .ok (.lst true ((xs.filter p).map f), resetTo L (wipeL L vs) vs) := lc_pure1 dx p f xs hs h
theorem src_rng2 {p q : P} {a b : Int} (hp : pur V.G p L = some (.int a)) (hq : pur V.G q L = some (.int b)) (h : -1000000 < a ∧ a < 1000000 ∧ -1000000 < b ∧ b < 1000000) : src V (.rng (.cons (.p p) (.cons (.p q) .nil))) L = .ok ((List.range (b - a).toNat).map fun k : Nat => D.int (a + (k : Nat)), L) := by
  rw [src_rng, dens_cons, keepD hp rfl]
  simp only [Res.bind]
  rw [dens_cons, keepD hq rfl]
  simp only [Res.bind]
  rw [dens_nil]
  simp only [Res.bind, rngRun]
  rw [if_pos h]
  simp only [Res.of, rngD_map]
theorem src_rngI {q : P} {b : Int} (hq : pur V.G q L = some (.int b)) (h : -1000000 < b ∧ b < 1000000) : src V (.rng (.cons (.p q) .nil)) L = .ok ((List.range b.toNat).map fun k : Nat => D.int (0 + (k : Nat)), L) := by
  rw [src_rng, dens_cons, keepD hq rfl]
  simp only [Res.bind]
  rw [dens_nil]
  simp only [Res.bind, rngRun]
  rw [if_pos h]
  simp only [Res.of, rngD_map]
theorem rng_nD (n : Nat) : ((List.range ((n : Nat) : Int).toNat).map fun k : Nat => D.int (0 + (k : Nat))) = (List.range n).map nD := by
  rw [Int.toNat_natCast]
  exact List.map_congr_left fun k _ => congrArg D.int (Int.zero_add _)
theorem src_rng1 {q : P} {n : Nat} (hq : pur V.G q L = some (nD n)) (h : (n : Int) < 1000000) : src V (.rng (.cons (.p q) .nil)) L = .ok ((List.range n).map nD, L) := by
  have := src_rngI hq ⟨by omega, h⟩
  rw [rng_nD] at this
  exact this
theorem src_var {i : Nat} {d : D} {ds : List D} (h : L[i]? = some (some d)) (hn : d.noOwn = true) (he : d.fz.els = some ds) : src V (.e (.p (.var i))) L = .ok (ds, L) := by
  rw [src_e, keepD (by simp only [pur, h]) hn]
  simp only [seqF, he]
theorem conds_p {p : P} {k : Bool} (h : pur V.G p L = some (.bl k)) : conds V (.cons (.p p) .nil) L = .ok (k, L) := by
  rw [conds_one, rdW_p, h]; rfl
/-- a for that folds, as far as it goes -/
theorem forRun_foldM {tg : Tg} {body : Lcs → RS} {α β : Type} (dx : β → D) (step : α → β → Option α) (z : α → Lcs → Prop) :
    ∀ (xs : List β) (a r : α) (L : Lcs), z a L → xs.foldlM step a = some r → (∀ x ∈ xs, ∀ a a' L, z a L → step a x = some a' → ∃ L1 L2, tg.set (dx x) L = some L1 ∧ body L1 = .nx L2 ∧ z a' L2) → ∃ L', forRun tg body (xs.map dx) L = .nx L' ∧ z r L'
  | [], a, r, L, h, e, _ => by
    simp only [List.foldlM_nil, Option.pure_def, Option.some.injEq] at e
    subst e
    exact ⟨L, rfl, h⟩
  | x :: xs, a, r, L, h, e, s => by
    rw [List.foldlM_cons] at e
    obtain ⟨a', e1, e2⟩ := Option.bind_eq_some_iff.mp e
    obtain ⟨L1, L2, g1, g2, h2⟩ := s x List.mem_cons_self a a' L h e1
    obtain ⟨L', g3, h3⟩ := forRun_foldM dx step z xs a' r L2 h2 e2 fun y m => s y (List.mem_cons_of_mem _ m)
    refine ⟨L', ?_, h3⟩
    rw [List.map_cons, forRun_cons, g1]
    simp only [g2, stepR]
    exact g3
theorem for_nx {tg : Tg} {s : Src} {b : Ss} {ds : List D} {L1 L' : Lcs} (hs : src V s L = .ok (ds, L1)) (h : forRun tg (fun L => runSs V b L) ds L1 = .nx L') : runS V (.for_ tg s b) L = .nx L' := by
  rw [run_for, hs]
  simp only [Res.seq]
  exact h
theorem eq_fD (p q : Nat × Nat) : eqD (fD p) (fD q) = some (decide (p = q)) := by
  have : eqD (fD p) (fD q) = some ((((p.1 : Int)) == (q.1 : Int)) && ((((p.2 : Int)) == (q.2 : Int)) && true)) := rfl
  rw [this]
  congr 1
  obtain ⟨a, b⟩ := p
  obtain ⟨c, d⟩ := q
  rw [Bool.eq_iff_iff]
  simp only [Bool.and_true, Bool.and_eq_true, beq_iff_eq, decide_eq_true_eq, Prod.mk.injEq]
  omega
theorem fzs_map {β : Type} {f : β → D} (h : ∀ x, (f x).fz = f x) (xs : List β) : D.fzs (xs.map f) = xs.map f := by
  rw [fzs_eq, List.map_map]
  exact List.map_congr_left fun x _ => h x
theorem noOwns_map {β : Type} {f : β → D} (h : ∀ x, (f x).noOwn = true) (xs : List β) : D.noOwns (xs.map f) = true := by
  rw [noOwns_eq, List.all_map, List.all_eq_true]
  exact fun x _ => h x
theorem noShs_map {β : Type} {f : β → D} (h : ∀ x, (f x).noSh = true) (xs : List β) : D.noShs (xs.map f) = true := by
  rw [noShs_eq, List.all_map, List.all_eq_true]
  exact fun x _ => h x
/-- a name that holds an own list, lent -/
theorem call1b {f : Str} {i : Nat} {d r : D} (hmd : V.md f = []) (har : (V.ar f).length = 1) (hp : L[i]? = some (some d)) (hc : V.call f [d.fz] = .ok (r, [])) (hr : r.noSh = true) : den V (.call f [] (.cons (.p (.var i)) .nil)) L = .ok (r, L) :=
  callOk hmd (arg_bor rfl hp (args_nil V _ _)) (by rw [har]; rfl) (ds := [d.fz]) (by simp [argVals, hp]) (by simp [lentOk, hp]) hc hr rfl
theorem atN {β : Type} {f : β → D} {xs : List β} {i : Nat} {x : β} (h : xs[i]? = some x) : atI (xs.map f) (i : Int) = some (f x) := by
  have hi := (List.getElem?_eq_some_iff.mp h).1
  unfold atI ixN
  rw [if_pos (by omega), if_pos (by rw [List.length_map]; omega)]
  simp [h]
end
end Q

namespace Q
open PySem L2 PySem.Spec
/-! ## steps of a walk, goal by goal -/
section
variable {V : EnvQ} {L L1 L2 L3 : Lcs} {ss a b : Ss} {r : RS} {d d1 d2 : D} {e e1 e2 c : E} {i : Nat} {k k2 : Bool}
theorem rdE (hp : isP e = false := by rfl) {x : Res (D × Lcs)} (h : den V e L = x) : rdW V e (fun L => den V e L) L = x := by
  cases e <;> first | exact h | (simp [isP] at hp)
theorem rdP {p : P} (h : pur V.G p L = some d) : rdW V (.p p) (fun L => den V (.p p) L) L = .ok (d, L) := by rw [rdW_p, h]
theorem q_nil : runSs V .nil L = .nx L := runs_nil _ _
theorem q_asg (h : den V e L = .ok (d, L1)) (h2 : runSs V ss (L1.set i (some d)) = r) : runSs V (.cons (.asg (.nm i) e) ss) L = r := (nx_cons (asgE h)).trans h2
theorem q_ret (h : den V e L = .ok (d, L1)) : runSs V (.cons (.ret e) ss) L = .rt d L1 := rt_cons (retE h)
theorem q_ex (h : den V e L = .ok (d, L1)) (h2 : runSs V ss L1 = r) : runSs V (.cons (.ex e) ss) L = r := (nx_cons (by rw [run_ex, h]; rfl)).trans h2
theorem q_ifF (h : rdW V c (fun L => den V c L) L = .ok (.bl false, L1)) (h2 : runSs V b L1 = .nx L2) (h3 : runSs V ss L2 = r) : runSs V (.cons (.ifs c a b) ss) L = r := by
  refine (nx_cons (L1 := L2) ?_).trans h3
  rw [run_ifs, h]
  exact h2
theorem q_ifT (h : rdW V c (fun L => den V c L) L = .ok (.bl true, L1)) (h2 : runSs V a L1 = .nx L2) (h3 : runSs V ss L2 = r) : runSs V (.cons (.ifs c a b) ss) L = r := by
  refine (nx_cons (L1 := L2) ?_).trans h3
  rw [run_ifs, h]
  exact h2
theorem q_ifR (h : rdW V c (fun L => den V c L) L = .ok (.bl true, L1)) (h2 : runSs V a L1 = .rt d L2) : runSs V (.cons (.ifs c a b) ss) L = .rt d L2 := by
  refine rt_cons ?_
  rw [run_ifs, h]
  exact h2
/-- a refusal not taken -/
theorem q_if0 (h : rdW V c (fun L => den V c L) L = .ok (.bl false, L1)) (h3 : runSs V ss L1 = r) : runSs V (.cons (.ifs c a .nil) ss) L = r := q_ifF h q_nil h3
theorem q_for {tg : Tg} {s : Src} {ds : List D} (hs : src V s L = .ok (ds, L1)) (h : forRun tg (fun L => runSs V b L) ds L1 = .nx L2) (h3 : runSs V ss L2 = r) : runSs V (.cons (.for_ tg s b) ss) L = r := (nx_cons (for_nx hs h)).trans h3
theorem q_app {xs : List D} (hl : xs.length < 1000000) (h0 : L[i]? = some (some (.lst true xs))) (h : den V e L = .ok (d, L1)) (h1 : L1[i]? = some (some (.lst true xs))) (h2 : runSs V ss (L1.set i (some (.lst true (xs ++ [d])))) = r) : runSs V (.cons (.app i [] e) ss) L = r := by
  refine (nx_cons ?_).trans h2
  rw [run_app0]
  simp only [lstAt, h0, Res.of, Res.seq, h, appRun, h1, pathInts, updPath, appF, hl, if_true, RS.of]
theorem q_ext {xs ys : List D} {bb : Bool} (hl : xs.length + ys.length ≤ 1000000) (h0 : L[i]? = some (some (.lst true xs))) (h : den V e L = .ok (.lst bb ys, L1)) (h1 : L1[i]? = some (some (.lst true xs))) (h2 : runSs V ss (L1.set i (some (.lst true (xs ++ ys)))) = r) : runSs V (.cons (.ext i e) ss) L = r := by
  refine (nx_cons ?_).trans h2
  rw [run_ext]
  simp only [lstAt, h0, Res.of, Res.seq, h, extRun, h1, hl, if_true, RS.of]
theorem q_par {is : List Nat} {es : Es} {ds : List D} (h : dens V es L = .ok (ds, L1)) (hs : setAllO is ds L1 = some L2) (h2 : runSs V ss L2 = r) : runSs V (.cons (.par is es) ss) L = r := by
  refine (nx_cons (L1 := L2) ?_).trans h2
  rw [run_par, h]
  simp only [Res.seq, hs, RS.of]
theorem q_cons {es : Es} {ds : List D} (h : den V e L = .ok (d, L1)) (h2 : dens V es L1 = .ok (ds, L2)) : dens V (.cons e es) L = .ok (d :: ds, L2) := by
  rw [dens_cons, h]
  simp only [Res.bind, h2]
theorem q_end : dens V .nil L = .ok ([], L) := dens_nil _ _
/-! expressions -/
theorem x_not (h : rdW V e (fun L => den V e L) L = .ok (.bl k, L1)) : den V (.o1 .not e) L = .ok (.bl (!k), L1) := by
  rw [den_o1, h]; rfl
theorem x_notR (h : rdW V e (fun L => den V e L) L = .ok (.bl k, L1)) : rdW V (.o1 .not e) (fun L => den V (.o1 .not e) L) L = .ok (.bl (!k), L1) := x_not h
theorem x_and (h : rdW V e1 (fun L => den V e1 L) L = .ok (.bl true, L1)) (h2 : rdW V e2 (fun L => den V e2 L) L1 = .ok (.bl k, L2)) : den V (.and e1 e2) L = .ok (.bl k, L2) := by
  rw [den_and, h]
  show ((rdW V e2 (fun L => den V e2 L) L1).bind _) = _
  rw [h2]; rfl
theorem x_andF (h : rdW V e1 (fun L => den V e1 L) L = .ok (.bl false, L1)) : den V (.and e1 e2) L = .ok (.bl false, L1) := by
  rw [den_and, h]; rfl
theorem x_or (h : rdW V e1 (fun L => den V e1 L) L = .ok (.bl false, L1)) (h2 : rdW V e2 (fun L => den V e2 L) L1 = .ok (.bl k, L2)) : den V (.or e1 e2) L = .ok (.bl k, L2) := by
  rw [den_or, h]
  show ((rdW V e2 (fun L => den V e2 L) L1).bind _) = _
  rw [h2]; rfl
theorem x_orR (h : rdW V e1 (fun L => den V e1 L) L = .ok (.bl false, L1)) (h2 : rdW V e2 (fun L => den V e2 L) L1 = .ok (.bl k, L2)) : rdW V (.or e1 e2) (fun L => den V (.or e1 e2) L) L = .ok (.bl k, L2) := x_or h h2
theorem x_ife (h : rdW V c (fun L => den V c L) L = .ok (.bl k, L1)) {x : Res (D × Lcs)} (h2 : (if k then den V e1 L1 else den V e2 L1) = x) : den V (.ife c e1 e2) L = x := by
  rw [den_ife, h]; exact h2
theorem x_o2 {o : O2} (h : den V e1 L = .ok (d1, L1)) (h2 : rdW V e2 (fun L => den V e2 L) L1 = .ok (d2, L2)) (h3 : ap2 o d1 d2 = some d) : den V (.o2 o e1 e2) L = .ok (d, L2) := by
  rw [den_o2, h]
  show ((rdW V e2 (fun L => den V e2 L) L1).bind _) = _
  rw [h2]
  simp only [Res.bind, h3, Res.of]
theorem x_tup {es : Es} {ds : List D} (h : dens V es L = .ok (ds, L1)) : den V (.tup es) L = .ok (.tup ds, L1) := by rw [den_tup, h]; rfl
theorem x_lst {es : Es} {ds : List D} (h : dens V es L = .ok (ds, L1)) : den V (.lst es) L = .ok (.lst true ds, L1) := by rw [den_lst, h]; rfl
theorem x_mv (h : L[i]? = some (some d)) : den V (.mv i) L = .ok (d, L.set i none) := by rw [den_mv, h]
/-! arguments -/
theorem a_bor {es : Es} {as : List Arg} (h : L[i]? = some (some d)) (h2 : args V [] es L = .ok (as, L2)) : args V [] (.cons (.p (.var i)) es) L = .ok (.bor i :: as, L2) := arg_bor rfl h h2
theorem a_val {es : Es} {as : List Arg} (h : den V e L = .ok (d, L1)) (h2 : args V [] es L1 = .ok (as, L2)) (hv : notVar e = true := by rfl) : args V [] (.cons e es) L = .ok (.val d :: as, L2) := arg_val rfl hv h h2
theorem a_end : args V [] .nil L = .ok ([], L) := args_nil _ _ _
end
section
variable {T : Tab} {G : Str → Option D} {N m : Nat}
/-- a call, its answer known -/
theorem cal {f : Str} {fn : FnD} {es : Es} {as : List Arg} {L L1 : Lcs} {ds : List D} {d : D} (l : T.lookup f = some fn) (ha : args (envN T G N m) [] es L = .ok (as, L1)) (hc : (envN T G N m).call f ds = .ok (d, [])) (hmd : fn.md = [] := by rfl) (hl : as.length = fn.ps.length := by rfl) (hv : argVals as L1 = some (ds, L1) := by rfl) (ho : lentOk as L1 = true := by rfl) (hd : d.noSh = true := by rfl) (hp : putBack as [] L1 = some L1 := by rfl) : den (envN T G N m) (.call f [] es) L = .ok (d, L1) :=
  callOk (by rw [show (envN T G N m).md f = fn.md from envN_md l, hmd]) ha (by rw [hl, show (envN T G N m).ar f = fn.ps from envN_ar l]) hv ho hc hd hp
/-- a call by names -/
theorem calK {f k : Str} {ks : List Str} {fn : FnD} {es : Es} {as : List Arg} {L L1 : Lcs} {ds ds' : List D} {d : D} (idx : List Nat) (l : T.lookup f = some fn) (ha : args (envN T G N m) [] es L = .ok (as, L1)) (hc : (envN T G N m).call f ds' = .ok (d, [])) (hi : idxK (k :: ks) fn.ps = idx := by decide +kernel) (hall : (fn.ps.all fun p => decide (p ∈ k :: ks)) = true := by decide +kernel) (hmd : fn.md = [] := by rfl) (hl : as.length = fn.ps.length := by rfl) (hl2 : (k :: ks).length = as.length := by rfl) (hv : argVals as L1 = some (ds, L1) := by rfl) (hpm : permL idx ds = ds' := by rfl) (ho : lentOk as L1 = true := by rfl) (hd : d.noSh = true := by rfl) (hp : putBack as [] L1 = some L1 := by rfl) : den (envN T G N m) (.call f (k :: ks) es) L = .ok (d, L1) := by
  have har : (envN T G N m).ar f = fn.ps := envN_ar l
  rw [den_callK, if_pos (by rw [show (envN T G N m).md f = fn.md from envN_md l, hmd]), ha]
  simp only [Res.bind]
  rw [if_pos ⟨by rw [hl, har], hl2, by rw [har]; exact hall⟩]
  unfold callRun
  have c : ((envN T G N m).kw (k :: ks)).call f ds = .ok (d, []) := by
    show (envN T G N m).call f (permL (idxK (k :: ks) ((envN T G N m).ar f)) ds) = _
    rw [har, hi, hpm, hc]
  rw [hv]
  simp only [ho, if_true, c, hd, outNoSh, Bool.and_self, hp]
end
theorem rd_pos {a b : Nat} (hb : 0 < b) (ha : a < big) (hb2 : b < big) : 0 < (rd a b).2 ∧ (rd a b).1 < big ∧ (rd a b).2 < big :=
  ⟨Nat.div_pos (Nat.le_of_dvd hb (Nat.gcd_dvd_right a b)) (Nat.gcd_pos_of_pos_right _ hb), Nat.lt_of_le_of_lt (Nat.div_le_self _ _) ha, Nat.lt_of_le_of_lt (Nat.div_le_self _ _) hb2⟩
/-- all or none -/
def mapO {α β : Type} (g : α → Option β) : List α → Option (List β)
  | [] => some []
  | x :: xs => match g x with
    | none => none
    | some y => match mapO g xs with
      | none => none
      | some ys => some (y :: ys)
theorem mapO_ok {α β : Type} {g : α → Option β} (z : β) : ∀ {xs : List α} {ys : List β}, mapO g xs = some ys → ys = xs.map (fun x => (g x).getD z) ∧ ∀ x ∈ xs, g x = some ((g x).getD z)
  | [], ys, h => by cases h; exact ⟨rfl, fun _ h => nomatch h⟩
  | x :: xs, ys, h => by
    unfold mapO at h
    split at h
    · cases h
    · rename_i y hy
      split at h
      · cases h
      · rename_i zs hz
        cases h
        obtain ⟨h1, h2⟩ := mapO_ok z hz
        refine ⟨by rw [List.map_cons, hy, ← h1]; rfl, fun w hw => ?_⟩
        rcases List.mem_cons.mp hw with rfl | hw
        · rw [hy]; rfl
        · exact h2 w hw
/-- a fold that appends -/
def apS1 {α β : Type} (f : α → β) (acc : List β) (x : α) : Option (List β) := if acc.length < 1000000 then some (acc ++ [f x]) else none
theorem foldlM_app {α β : Type} (f : α → β) : ∀ (xs : List α) (acc : List β), acc.length + xs.length ≤ 1000000 → xs.foldlM (apS1 f) acc = some (acc ++ xs.map f)
  | [], acc, _ => by simp
  | x :: xs, acc, h => by
    rw [List.length_cons] at h
    rw [List.foldlM_cons, apS1, if_pos (by omega)]
    show xs.foldlM (apS1 f) (acc ++ [f x]) = _
    rw [foldlM_app f xs _ (by rw [List.length_append, List.length_singleton]; omega)]
    simp
def apSs {α β : Type} (f : α → List β) (acc : List β) (x : α) : Option (List β) := if acc.length + (f x).length ≤ 1000000 then some (acc ++ f x) else none
theorem foldlM_apps {α β : Type} (f : α → List β) : ∀ (xs : List α) (acc : List β), acc.length + (xs.flatMap f).length ≤ 1000000 → xs.foldlM (apSs f) acc = some (acc ++ xs.flatMap f)
  | [], acc, _ => by simp
  | x :: xs, acc, h => by
    rw [List.flatMap_cons, List.length_append] at h
    rw [List.foldlM_cons, apSs, if_pos (by omega)]
    show xs.foldlM (apSs f) (acc ++ f x) = _
    rw [foldlM_apps f xs _ (by rw [List.length_append]; omega)]
    simp
section
variable {V : EnvQ} {L : Lcs}
theorem x_sqList {p : P} {d : D} {ds : List D} (h : pur V.G p L = some d) (he : d.els = some ds) (hn : D.noOwns ds = true) : den V (.sq .list (.p p)) L = .ok (.lst true ds, L) := by
  rw [den_sq]
  have : seqW V (.p p) (fun L => den V (.p p) L) L = .ok (d, L) := by
    unfold seqW
    simp only [h, he, hn, if_true]
  rw [this]
  simp only [Res.bind, apS, he, Res.of]
theorem geN {p q : P} {a b : Nat} (hp : pur V.G p L = some (nD a)) (hq : pur V.G q L = some (nD b)) : pur V.G (.o2 .ge p q) L = some (.bl (Nat.ble b a)) := by
  refine (pur2 hp hq).trans ?_
  show some (D.bl (decide ((b : Int) ≤ (a : Int)))) = _
  refine congrArg (fun i => some (D.bl i)) ?_
  by_cases h : b ≤ a
  · rw [decide_eq_true (by omega)]; exact (Nat.ble_eq.mpr h).symm
  · rw [decide_eq_false (by omega)]; exact (Bool.eq_false_iff.mpr fun z => h (Nat.ble_eq.mp z)).symm
theorem ltNb {p q : P} {a b : Nat} (hp : pur V.G p L = some (nD a)) (hq : pur V.G q L = some (nD b)) : pur V.G (.o2 .lt p q) L = some (.bl (Nat.blt a b)) := by
  refine (pur2 hp hq).trans ?_
  show some (D.bl (decide ((a : Int) < (b : Int)))) = _
  refine congrArg (fun i => some (D.bl i)) ?_
  by_cases h : a < b
  · rw [decide_eq_true (by omega)]; exact (Nat.blt_eq.mpr h).symm
  · rw [decide_eq_false (by omega)]; exact (Bool.eq_false_iff.mpr fun z => h (Nat.blt_eq.mp z)).symm
theorem gtN {p q : P} {a b : Nat} (hp : pur V.G p L = some (nD a)) (hq : pur V.G q L = some (nD b)) : pur V.G (.o2 .gt p q) L = some (.bl (Nat.blt b a)) := by
  refine (pur2 hp hq).trans ?_
  show some (D.bl (decide ((b : Int) < (a : Int)))) = _
  refine congrArg (fun i => some (D.bl i)) ?_
  by_cases h : b < a
  · rw [decide_eq_true (by omega)]; exact (Nat.blt_eq.mpr h).symm
  · rw [decide_eq_false (by omega)]; exact (Bool.eq_false_iff.mpr fun z => h (Nat.blt_eq.mp z)).symm
theorem eqN {p q : P} {a b : Nat} (hp : pur V.G p L = some (nD a)) (hq : pur V.G q L = some (nD b)) : pur V.G (.o2 .eq p q) L = some (.bl (decide (a = b))) := by
  refine (pur2 hp hq).trans ?_
  show some (D.bl (decide ((a : Int) = (b : Int)))) = _
  refine congrArg (fun i => some (D.bl i)) ?_
  by_cases h : a = b
  · rw [decide_eq_true h, decide_eq_true (by omega)]
  · rw [decide_eq_false h, decide_eq_false (by omega)]
def mn (a b : Nat) : Nat := if Nat.blt b a then b else a
def mx (a b : Nat) : Nat := if Nat.blt a b then b else a
theorem minN {p q : P} {a b : Nat} (hp : pur V.G p L = some (nD a)) (hq : pur V.G q L = some (nD b)) : pur V.G (.o2 .min p q) L = some (nD (mn a b)) := by
  refine (pur2 hp hq).trans ?_
  show some (D.int (if (b : Int) < (a : Int) then (b : Int) else (a : Int))) = _
  refine congrArg (fun i => some (D.int i)) ?_
  unfold mn
  by_cases h : b < a
  · rw [if_pos (by omega), if_pos (Nat.blt_eq.mpr h)]
  · rw [if_neg (by omega), if_neg (fun z => h (Nat.blt_eq.mp z))]
theorem maxN {p q : P} {a b : Nat} (hp : pur V.G p L = some (nD a)) (hq : pur V.G q L = some (nD b)) : pur V.G (.o2 .max p q) L = some (nD (mx a b)) := by
  refine (pur2 hp hq).trans ?_
  show some (D.int (if (b : Int) > (a : Int) then (b : Int) else (a : Int))) = _
  refine congrArg (fun i => some (D.int i)) ?_
  unfold mx
  by_cases h : a < b
  · rw [if_pos (by omega), if_pos (Nat.blt_eq.mpr h)]
  · rw [if_neg (by omega), if_neg (fun z => h (Nat.blt_eq.mp z))]
theorem subN {p q : P} {a b : Nat} (hp : pur V.G p L = some (nD a)) (hq : pur V.G q L = some (nD b)) (h : b ≤ a) : pur V.G (.o2 .sub p q) L = some (nD (a - b)) := by
  refine (pur2 hp hq).trans ?_
  show some (D.int ((a : Int) - (b : Int))) = _
  refine congrArg (fun i => some (D.int i)) ?_
  omega
theorem src_rngN {q : P} {n : Nat} (hq : pur V.G q L = some (nD (n + 1))) (h : (n : Int) < 900000) : src V (.rng (.cons (.p (.int 1)) (.cons (.p q) .nil))) L = .ok ((List.range n).map fun k => nD (k + 1), L) := by
  have := src_rng2 (V := V) (L := L) (p := .int 1) (q := q) (a := 1) (b := ((n + 1 : Nat) : Int)) rfl hq (by omega)
  rw [this]
  have e : (((n + 1 : Nat) : Int) - 1).toNat = n := by omega
  rw [e]
  refine congrArg (fun x => Res.ok (x, L)) (List.map_congr_left fun k _ => congrArg D.int ?_)
  omega
theorem add1 {j : Nat} : ap2 .add (.int 1) (nD j) = some (nD (j + 1)) := congrArg (fun i => some (D.int i)) (show (1 : Int) + (j : Int) = ((j + 1 : Nat) : Int) by omega)
end
/-- the least number from a fraction on -/
def upN (p : Nat × Nat) : Nat := if p.1 / p.2 * p.2 = p.1 then p.1 / p.2 else p.1 / p.2 + 1
theorem up_int {x y : Nat} (hy : 0 < y) : -((-(x : Int)).fdiv (y : Int)) = ((upN (x, y) : Nat) : Int) := by
  rw [Int.fdiv_eq_ediv_of_nonneg _ (by omega)]
  have h0 := Nat.div_add_mod x y
  have h1 := Nat.mod_lt x hy
  have hc : (y : Int) * ((x / y : Nat) : Int) + ((x % y : Nat) : Int) = (x : Int) := by rw [← Int.natCast_mul, ← Int.natCast_add, h0]
  unfold upN
  simp only
  generalize x / y = q at *
  generalize x % y = r at *
  by_cases hr : r = 0
  · subst hr
    rw [if_pos (by rw [Nat.mul_comm]; omega)]
    have : -(x : Int) = (y : Int) * (-(q : Int)) := by rw [Int.mul_neg]; omega
    rw [this, Int.mul_ediv_cancel_left _ (by omega)]
    omega
  · rw [if_neg (by rw [Nat.mul_comm]; omega)]
    have : -(x : Int) = ((y - r : Nat) : Int) + (y : Int) * (-((q : Int) + 1)) := by
      rw [Int.mul_neg, Int.mul_add, Int.mul_one]; omega
    rw [this, Int.add_mul_ediv_left _ _ (by omega), Int.ediv_eq_zero_of_lt (by omega) (by omega)]
    omega
end Q

namespace K74
open PySem L2 Q
def top (i : Nat) : Stmt := PySem.Challenge.pw_paidlater_k74_whole_a_number_said.main.body.getD i (.Pass ⟨0, 0, 0, 0⟩)
def fn_law : FnD := { ps := [Str.ofString "script"], N := [Str.ofString "script", Str.ofString "stream", Str.ofString "turn", Str.ofString "due", Str.ofString "price", Str.ofString "below", Str.ofString "trust", Str.ofString "said"], md := [], body :=
 (.cons (.asg (.nm 1) (.call (Str.ofString "_law_stream") [] (.cons (.p (.var 0)) .nil)))
 (.cons (.for_ (.nm 2) (.rng (.cons (.p (.int 5)) .nil))
 (.cons (.par [4, 5] (.cons (.o2 .add (.p (.int 1)) (.call (Str.ofString "_law_draw") [] (.cons (.p (.var 1)) (.cons (.p (.int 40)) .nil)))) (.cons (.o2 .add (.p (.int 1)) (.call (Str.ofString "_law_draw") [] (.cons (.p (.var 1)) (.cons (.p (.int 10)) .nil)))) .nil)))
 (.cons (.par [6, 7] (.cons (.call (Str.ofString "_law_frac") [] (.cons (.o2 .add (.p (.int 1)) (.call (Str.ofString "_law_draw") [] (.cons (.p (.var 1)) (.cons (.p (.var 5)) .nil)))) (.cons (.p (.var 5)) .nil))) (.cons (.o2 .add (.p (.int 1)) (.call (Str.ofString "_law_draw") [] (.cons (.p (.var 1)) (.cons (.p (.int 200)) .nil)))) .nil)))
 (.cons (.asg (.nm 3) (.call (Str.ofString "_law_day") [] (.cons (.p (.var 4)) (.cons (.p (.var 6)) (.cons (.p (.var 7)) .nil)))))
 (.cons (.ifs (.o1 .not (.call (Str.ofString "_law_same") [] (.cons (.lst (.cons (.call (Str.ofString "trusting_day") [] (.cons (.p (.var 4)) (.cons (.sq .list (.p (.var 6))) (.cons (.p (.var 7)) .nil)))) (.cons (.call (Str.ofString "trusting_day") [Str.ofString "said", Str.ofString "trust", Str.ofString "price"] (.cons (.p (.var 7)) (.cons (.p (.var 6)) (.cons (.p (.var 4)) .nil)))) .nil))) (.cons (.lst (.cons (.p (.var 3)) (.cons (.p (.var 3)) .nil))) .nil))))
 (.cons (.ret (.p (.bl false)))
 .nil)
 .nil)
 (.cons (.asg (.nm 3) (.call (Str.ofString "_law_both") [] (.cons (.p (.var 4)) (.cons (.p (.var 6)) .nil))))
 (.cons (.ifs (.o1 .not (.call (Str.ofString "_law_same") [] (.cons (.lst (.cons (.call (Str.ofString "trusting_fractions") [] (.cons (.p (.var 4)) (.cons (.p (.var 6)) .nil))) (.cons (.call (Str.ofString "trusting_fractions") [Str.ofString "trust", Str.ofString "price"] (.cons (.sq .list (.p (.var 6))) (.cons (.p (.var 4)) .nil))) .nil))) (.cons (.lst (.cons (.p (.var 3)) (.cons (.p (.var 3)) .nil))) .nil))))
 (.cons (.ret (.p (.bl false)))
 .nil)
 .nil)
 (.cons (.ifs (.or (.call (Str.ofString "_law_under") [] (.cons (.call (Str.ofString "_law_plus") [] (.cons (.tup (.cons (.p (.int 1)) (.cons (.p (.int 1)) .nil))) (.cons (.p (.var 6)) .nil))) (.cons (.p (.o2 .ix (.var 3) (.int 0))) .nil))) (.call (Str.ofString "_law_under") [] (.cons (.call (Str.ofString "_law_plus") [] (.cons (.tup (.cons (.p (.int 1)) (.cons (.p (.int 1)) .nil))) (.cons (.call (Str.ofString "_law_over") [] (.cons (.tup (.cons (.p (.int 1)) (.cons (.p (.int 1)) .nil))) (.cons (.p (.var 6)) .nil))) .nil))) (.cons (.p (.o2 .ix (.var 3) (.int 1))) .nil))))
 (.cons (.ret (.p (.bl false)))
 .nil)
 .nil)
 .nil))))))))
 (.cons (.ret (.and (.call (Str.ofString "_law_same") [] (.cons (.call (Str.ofString "trusting_day") [] (.cons (.p (.int 4)) (.cons (.tup (.cons (.p (.int 1)) (.cons (.p (.int 2)) .nil))) (.cons (.p (.int 9)) .nil)))) (.cons (.p (.int 2)) .nil))) (.call (Str.ofString "_law_same") [] (.cons (.call (Str.ofString "trusting_day") [] (.cons (.p (.int 4)) (.cons (.tup (.cons (.p (.int 1)) (.cons (.p (.int 2)) .nil))) (.cons (.p (.int 3)) .nil)))) (.cons (.p (.int 8)) .nil)))))
 .nil))) }
def fn__law_both : FnD := { ps := [Str.ofString "price", Str.ofString "trust"], N := [Str.ofString "price", Str.ofString "trust", Str.ofString "days", Str.ofString "said", Str.ofString "right", Str.ofString "any_one", Str.ofString "day"], md := [], body :=
 (.cons (.par [4, 5] (.cons (.lst .nil) (.cons (.lst .nil) .nil)))
 (.cons (.for_ (.nm 2) (.rng (.cons (.p (.int 1)) (.cons (.p (.o2 .add (.o2 .mul (.int 4) (.var 0)) (.int 2))) .nil)))
 (.cons (.app 4 [] (.call (Str.ofString "_law_frac") [] (.cons (.call (Str.ofString "_law_buying") [] (.cons (.p (.var 0)) (.cons (.call (Str.ofString "_law_day") [] (.cons (.p (.var 0)) (.cons (.p (.var 1)) (.cons (.p (.var 2)) .nil)))) (.cons (.p (.var 2)) .nil)))) (.cons (.p (.o2 .min (.var 0) (.var 2))) .nil))))
 .nil))
 (.cons (.for_ (.nm 3) (.e (.cat (.lst (.cons (.p (.var 0)) .nil)) (.ife (.p (.o2 .gt (.var 0) (.int 1))) (.lst (.cons (.p (.int 1)) .nil)) (.lst .nil))))
 (.cons (.asg (.nm 6) (.call (Str.ofString "_law_day") [] (.cons (.p (.var 0)) (.cons (.p (.var 1)) (.cons (.p (.var 3)) .nil)))))
 (.cons (.ext 5 (.lc [2] (.nm 2) (.rng (.cons (.p (.int 1)) (.cons (.p (.o2 .add (.o2 .max (.var 6) (.var 0)) (.int 2))) .nil))) .nil (.call (Str.ofString "_law_frac") [] (.cons (.call (Str.ofString "_law_buying") [] (.cons (.p (.var 0)) (.cons (.p (.var 6)) (.cons (.p (.var 2)) .nil)))) (.cons (.p (.o2 .min (.var 0) (.var 2))) .nil)))))
 .nil)))
 (.cons (.ret (.tup (.cons (.call (Str.ofString "_law_greatest") [] (.cons (.p (.var 4)) .nil)) (.cons (.call (Str.ofString "_law_greatest") [] (.cons (.p (.var 5)) .nil)) .nil))))
 .nil)))) }
def fn__law_day : FnD := { ps := [Str.ofString "price", Str.ofString "trust", Str.ofString "said"], N := [Str.ofString "price", Str.ofString "trust", Str.ofString "said", Str.ofString "bound", Str.ofString "day"], md := [], body :=
 (.cons (.asg (.nm 3) (.ife (.p (.o2 .ge (.var 2) (.var 0))) (.call (Str.ofString "_law_times") [] (.cons (.p (.var 1)) (.cons (.tup (.cons (.p (.var 0)) (.cons (.p (.int 1)) .nil))) .nil))) (.call (Str.ofString "_law_over") [] (.cons (.tup (.cons (.p (.var 0)) (.cons (.p (.int 1)) .nil))) (.cons (.p (.var 1)) .nil)))))
 (.cons (.asg (.nm 4) (.p (.o2 .fdiv (.o2 .ix (.var 3) (.int 0)) (.o2 .ix (.var 3) (.int 1)))))
 (.cons (.ret (.ife (.p (.o2 .eq (.o2 .mul (.var 4) (.o2 .ix (.var 3) (.int 1))) (.o2 .ix (.var 3) (.int 0)))) (.p (.var 4)) (.p (.o2 .add (.var 4) (.int 1)))))
 .nil))) }
def fn__law_draw : FnD := { ps := [Str.ofString "stream", Str.ofString "many"], N := [Str.ofString "stream", Str.ofString "many", Str.ofString "mixed", Str.ofString "cell", Str.ofString "digit"], md := [true], body :=
 (.cons (.setx 0 [] (.int 2) (.p (.o2 .add (.o2 .ix (.var 0) (.int 2)) (.int 1))))
 (.cons (.whl (.p (.and (.o2 .eq (.o2 .ix (.var 0) (.int 1)) (.int 0)) (.o1 .neE (.o2 .ix (.var 0) (.int 0)))))
 (.cons (.asg (.nm 3) (.o1 .abs (.popi 0 [(.int 0)] (.cons (.p (.int 0)) .nil))))
 (.cons (.setx 0 [] (.int 3) (.p (.o2 .mod (.o1 .int1 (.o2 .add (.o2 .add (.o2 .mul (.o2 .ix (.var 0) (.int 3)) (.int 8191)) (.var 3)) (.int 3))) (.int 2147483647))))
 (.cons (.setx 0 [] (.int 1) (.ife (.p (.o2 .ge (.var 3) (.o2 .pow (.int 10) (.int 18)))) (.p (.var 3)) (.p (.int 0))))
 .nil))))
 (.cons (.ifs (.p (.o2 .gt (.o2 .ix (.var 0) (.int 1)) (.int 0)))
 (.cons (.asg (.nm 4) (.p (.o2 .mod (.o1 .int1 (.o2 .ix (.var 0) (.int 1))) (.var 1))))
 (.cons (.setx 0 [] (.int 1) (.p (.o2 .fdiv (.o2 .ix (.var 0) (.int 1)) (.var 1))))
 (.cons (.ret (.mv 4))
 .nil)))
 .nil)
 (.cons (.asg (.nm 2) (.p (.o2 .mod (.o1 .int1 (.o2 .pow (.o2 .add (.o2 .add (.o2 .ix (.var 0) (.int 3)) (.o2 .mul (.int 7919) (.o2 .ix (.var 0) (.int 2)))) (.int 104729)) (.int 5))) (.int 2147483629))))
 (.cons (.ret (.p (.o2 .mod (.o2 .mod (.o1 .int1 (.o2 .pow (.o2 .add (.o2 .add (.o2 .mul (.var 2) (.int 48271)) (.o2 .mul (.int 30011) (.o2 .ix (.var 0) (.int 2)))) (.int 29)) (.int 3))) (.int 1000000007)) (.var 1))))
 .nil))))) }
def fn__law_frac : FnD := { ps := [Str.ofString "above", Str.ofString "below"], N := [Str.ofString "above", Str.ofString "below", Str.ofString "sign", Str.ofString "one", Str.ofString "other"], md := [], body :=
 (.cons (.par [3, 4] (.cons (.p (.o1 .abs (.var 0))) (.cons (.p (.o1 .abs (.var 1))) .nil)))
 (.cons (.whl (.p (.o2 .gt (.var 4) (.int 0)))
 (.cons (.par [3, 4] (.cons (.p (.var 4)) (.cons (.p (.o2 .mod (.o1 .int1 (.var 3)) (.var 4))) .nil)))
 .nil))
 (.cons (.asg (.nm 2) (.ife (.p (.o2 .gt (.var 1) (.int 0))) (.p (.int 1)) (.p (.o1 .neg (.int 1)))))
 (.cons (.ret (.tup (.cons (.p (.o2 .fdiv (.o2 .mul (.var 2) (.var 0)) (.var 3))) (.cons (.p (.o2 .fdiv (.o2 .mul (.var 2) (.var 1)) (.var 3))) .nil))))
 .nil)))) }
def fn__law_over : FnD := { ps := [Str.ofString "one", Str.ofString "other"], N := [Str.ofString "one", Str.ofString "other"], md := [], body :=
 (.cons (.ret (.call (Str.ofString "_law_frac") [] (.cons (.p (.o2 .mul (.o2 .ix (.var 0) (.int 0)) (.o2 .ix (.var 1) (.int 1)))) (.cons (.p (.o2 .mul (.o2 .ix (.var 0) (.int 1)) (.o2 .ix (.var 1) (.int 0)))) .nil))))
 .nil) }
def fn__law_plus : FnD := { ps := [Str.ofString "one", Str.ofString "other"], N := [Str.ofString "one", Str.ofString "other"], md := [], body :=
 (.cons (.ret (.call (Str.ofString "_law_frac") [] (.cons (.p (.o2 .add (.o2 .mul (.o2 .ix (.var 0) (.int 0)) (.o2 .ix (.var 1) (.int 1))) (.o2 .mul (.o2 .ix (.var 1) (.int 0)) (.o2 .ix (.var 0) (.int 1))))) (.cons (.p (.o2 .mul (.o2 .ix (.var 0) (.int 1)) (.o2 .ix (.var 1) (.int 1)))) .nil))))
 .nil) }
def fn__law_same : FnD := { ps := [Str.ofString "found", Str.ofString "due"], N := [Str.ofString "found", Str.ofString "due", Str.ofString "mine", Str.ofString "theirs"], md := [], body :=
 (.cons (.ifs (.p (.o1 (.isi ["list", "tuple"]) (.var 1)))
 (.cons (.ifs (.p (.or (.o2 .ne (.o1 (.isi ["list"]) (.var 0)) (.o1 (.isi ["list"]) (.var 1))) (.o2 .ne (.o1 (.isi ["tuple"]) (.var 0)) (.o1 (.isi ["tuple"]) (.var 1)))))
 (.cons (.ret (.p (.bl false)))
 .nil)
 .nil)
 (.cons (.ret (.and (.p (.o2 .eq (.o1 .len (.var 0)) (.o1 .len (.var 1)))) (.sq .all (.lc [2, 3] (.tup [2, 3]) (.zip (.p (.var 0)) (.p (.var 1))) .nil (.call (Str.ofString "_law_same") [] (.cons (.p (.var 2)) (.cons (.p (.var 3)) .nil)))))))
 .nil))
 .nil)
 (.cons (.ifs (.p (.o1 (.isi ["dict"]) (.var 1)))
 (.cons .nev
 .nil)
 .nil)
 (.cons (.ifs (.p (.or (.o1 (.isi ["bool"]) (.var 1)) (.o1 (.isi ["bool"]) (.var 0))))
 (.cons (.ret (.p (.and (.o1 (.isi ["bool"]) (.var 1)) (.and (.o1 (.isi ["bool"]) (.var 0)) (.o2 .eq (.var 0) (.var 1))))))
 .nil)
 .nil)
 (.cons (.ifs (.p (.or (.o1 .isN (.var 1)) (.o1 .isN (.var 0))))
 (.cons (.ret (.p (.and (.o1 .isN (.var 1)) (.o1 .isN (.var 0)))))
 .nil)
 .nil)
 (.cons (.ifs (.p (.or (.o2 .ne (.o1 (.isi ["int"]) (.var 1)) (.o1 (.isi ["int"]) (.var 0))) (.o2 .ne (.o1 (.isi ["str"]) (.var 1)) (.o1 (.isi ["str"]) (.var 0)))))
 (.cons (.ret (.p (.bl false)))
 .nil)
 .nil)
 (.cons (.ret (.p (.and (.o1 .not (.o1 (.isi ["list", "tuple", "dict"]) (.var 0))) (.o2 .eq (.var 0) (.var 1)))))
 .nil)))))) }
def fn__law_stream : FnD := { ps := [Str.ofString "script"], N := [Str.ofString "script"], md := [], body :=
 (.cons (.ret (.lst (.cons (.sq .list (.mv 0)) (.cons (.p (.int 0)) (.cons (.p (.int 0)) (.cons (.p (.int 17)) .nil))))))
 .nil) }
def fn__law_under : FnD := { ps := [Str.ofString "one", Str.ofString "other"], N := [Str.ofString "one", Str.ofString "other"], md := [], body :=
 (.cons (.ret (.p (.o2 .lt (.o2 .mul (.o2 .ix (.var 0) (.int 0)) (.o2 .ix (.var 1) (.int 1))) (.o2 .mul (.o2 .ix (.var 1) (.int 0)) (.o2 .ix (.var 0) (.int 1))))))
 .nil) }
def fn_trusting_day : FnD := { ps := [Str.ofString "price", Str.ofString "trust", Str.ofString "said"], N := [Str.ofString "price", Str.ofString "trust", Str.ofString "said", Str.ofString "kept"], md := [], body :=
 (.cons (.ex (.call (Str.ofString "need_price") [] (.cons (.p (.var 0)) .nil)))
 (.cons (.asg (.nm 3) (.call (Str.ofString "need_trust") [] (.cons (.p (.var 1)) .nil)))
 (.cons (.ifs (.o1 .not (.call (Str.ofString "is_one_up") [] (.cons (.p (.var 2)) .nil)))
 (.cons .nev
 .nil)
 .nil)
 (.cons (.ret (.call (Str.ofString "day_by") [] (.cons (.p (.var 0)) (.cons (.p (.var 3)) (.cons (.p (.o2 .ge (.var 2) (.var 0))) .nil)))))
 .nil)))) }
def fn_trusting_fractions : FnD := { ps := [Str.ofString "price", Str.ofString "trust"], N := [Str.ofString "price", Str.ofString "trust", Str.ofString "kept", Str.ofString "early", Str.ofString "found"], md := [], body :=
 (.cons (.ex (.call (Str.ofString "need_price") [] (.cons (.p (.var 0)) .nil)))
 (.cons (.asg (.nm 2) (.call (Str.ofString "need_trust") [] (.cons (.p (.var 1)) .nil)))
 (.cons (.asg (.nm 3) (.call (Str.ofString "day_by") [] (.cons (.p (.var 0)) (.cons (.p (.var 2)) (.cons (.p (.bl true)) .nil)))))
 (.cons (.asg (.nm 4) (.lst (.cons (.call (Str.ofString "fraction_by") [] (.cons (.p (.var 0)) (.cons (.p (.var 3)) .nil))) .nil)))
 (.cons (.ifs (.p (.o2 .gt (.var 0) (.int 1)))
 (.cons (.app 4 [] (.call (Str.ofString "fraction_by") [] (.cons (.p (.var 0)) (.cons (.call (Str.ofString "day_by") [] (.cons (.p (.var 0)) (.cons (.p (.var 2)) (.cons (.p (.bl false)) .nil)))) .nil))))
 .nil)
 .nil)
 (.cons (.ret (.tup (.cons (.call (Str.ofString "reduced") [] (.cons (.p (.o2 .add (.o2 .sub (.var 3) (.int 1)) (.var 0))) (.cons (.p (.var 0)) .nil))) (.cons (.call (Str.ofString "greatest") [] (.cons (.p (.var 4)) .nil)) .nil))))
 .nil)))))) }
def fn__law_buying : FnD := { ps := [Str.ofString "price", Str.ofString "day", Str.ofString "days"], N := [Str.ofString "price", Str.ofString "day", Str.ofString "days"], md := [], body :=
 (.cons (.ret (.ife (.p (.o2 .lt (.var 2) (.var 1))) (.p (.var 2)) (.p (.o2 .add (.o2 .sub (.var 1) (.int 1)) (.var 0)))))
 .nil) }
def fn__law_greatest : FnD := { ps := [Str.ofString "some"], N := [Str.ofString "some", Str.ofString "found", Str.ofString "one"], md := [], body :=
 (.cons (.asg (.nm 1) (.p (.o2 .ix (.var 0) (.int 0))))
 (.cons (.for_ (.nm 2) (.e (.slice (.p (.var 0)) (.cons (.p (.int 1)) .nil) .nil))
 (.cons (.asg (.nm 1) (.ife (.call (Str.ofString "_law_under") [] (.cons (.p (.var 1)) (.cons (.p (.var 2)) .nil))) (.p (.var 2)) (.p (.var 1))))
 .nil))
 (.cons (.ret (.mv 1))
 .nil))) }
def fn__law_times : FnD := { ps := [Str.ofString "one", Str.ofString "other"], N := [Str.ofString "one", Str.ofString "other"], md := [], body :=
 (.cons (.ret (.call (Str.ofString "_law_frac") [] (.cons (.p (.o2 .mul (.o2 .ix (.var 0) (.int 0)) (.o2 .ix (.var 1) (.int 0)))) (.cons (.p (.o2 .mul (.o2 .ix (.var 0) (.int 1)) (.o2 .ix (.var 1) (.int 1)))) .nil))))
 .nil) }
def fn_day_by : FnD := { ps := [Str.ofString "price", Str.ofString "trust", Str.ofString "is_long"], N := [Str.ofString "price", Str.ofString "trust", Str.ofString "is_long"], md := [], body :=
 (.cons (.ret (.call (Str.ofString "up_from") [] (.cons (.ife (.p (.var 2)) (.call (Str.ofString "times") [] (.cons (.p (.var 1)) (.cons (.tup (.cons (.p (.var 0)) (.cons (.p (.int 1)) .nil))) .nil))) (.call (Str.ofString "over") [] (.cons (.tup (.cons (.p (.var 0)) (.cons (.p (.int 1)) .nil))) (.cons (.p (.var 1)) .nil)))) .nil)))
 .nil) }
def fn_is_one_up : FnD := { ps := [Str.ofString "thing"], N := [Str.ofString "thing"], md := [], body :=
 (.cons (.ret (.and (.call (Str.ofString "is_whole") [] (.cons (.p (.var 0)) .nil)) (.p (.o2 .gt (.var 0) (.int 0)))))
 .nil) }
def fn_need_price : FnD := { ps := [Str.ofString "price"], N := [Str.ofString "price"], md := [], body :=
 (.cons (.ifs (.o1 .not (.call (Str.ofString "is_one_up") [] (.cons (.p (.var 0)) .nil)))
 (.cons .nev
 .nil)
 .nil)
 .nil) }
def fn_need_trust : FnD := { ps := [Str.ofString "trust"], N := [Str.ofString "trust", Str.ofString "kept"], md := [], body :=
 (.cons (.asg (.nm 1) (.call (Str.ofString "kept_fraction") [] (.cons (.p (.var 0)) .nil)))
 (.cons (.ifs (.or (.p (.o1 .isN (.var 1))) (.or (.o1 .not (.call (Str.ofString "is_under") [] (.cons (.p (.glob (Str.ofString "NOUGHT"))) (.cons (.p (.var 1)) .nil)))) (.call (Str.ofString "is_under") [] (.cons (.p (.glob (Str.ofString "ONE"))) (.cons (.p (.var 1)) .nil)))))
 (.cons .nev
 .nil)
 .nil)
 (.cons (.ret (.mv 1))
 .nil))) }
def fn_fraction_by : FnD := { ps := [Str.ofString "price", Str.ofString "day"], N := [Str.ofString "price", Str.ofString "day"], md := [], body :=
 (.cons (.ret (.call (Str.ofString "reduced") [] (.cons (.p (.o2 .add (.o2 .sub (.var 1) (.int 1)) (.var 0))) (.cons (.p (.o2 .min (.var 1) (.var 0))) .nil))))
 .nil) }
def fn_greatest : FnD := { ps := [Str.ofString "things"], N := [Str.ofString "things", Str.ofString "found", Str.ofString "thing"], md := [], body :=
 (.cons (.asg (.nm 1) (.p (.o2 .ix (.var 0) (.int 0))))
 (.cons (.for_ (.nm 2) (.e (.p (.var 0)))
 (.cons (.asg (.nm 1) (.ife (.call (Str.ofString "is_under") [] (.cons (.p (.var 1)) (.cons (.p (.var 2)) .nil))) (.p (.var 2)) (.p (.var 1))))
 .nil))
 (.cons (.ret (.mv 1))
 .nil))) }
def fn_reduced : FnD := { ps := [Str.ofString "above", Str.ofString "below"], N := [Str.ofString "above", Str.ofString "below", Str.ofString "divisor"], md := [], body :=
 (.cons (.asg (.nm 2) (.call (Str.ofString "common_divisor") [] (.cons (.p (.var 0)) (.cons (.p (.var 1)) .nil))))
 (.cons (.ifs (.p (.o2 .lt (.var 1) (.int 0)))
 (.cons (.asg (.nm 2) (.p (.o1 .neg (.var 2))))
 .nil)
 .nil)
 (.cons (.ret (.tup (.cons (.p (.o2 .fdiv (.var 0) (.var 2))) (.cons (.p (.o2 .fdiv (.var 1) (.var 2))) .nil))))
 .nil))) }
def fn_over : FnD := { ps := [Str.ofString "one", Str.ofString "other"], N := [Str.ofString "one", Str.ofString "other"], md := [], body :=
 (.cons (.ret (.call (Str.ofString "reduced") [] (.cons (.p (.o2 .mul (.o2 .ix (.var 0) (.int 0)) (.o2 .ix (.var 1) (.int 1)))) (.cons (.p (.o2 .mul (.o2 .ix (.var 0) (.int 1)) (.o2 .ix (.var 1) (.int 0)))) .nil))))
 .nil) }
def fn_times : FnD := { ps := [Str.ofString "one", Str.ofString "other"], N := [Str.ofString "one", Str.ofString "other"], md := [], body :=
 (.cons (.ret (.call (Str.ofString "reduced") [] (.cons (.p (.o2 .mul (.o2 .ix (.var 0) (.int 0)) (.o2 .ix (.var 1) (.int 0)))) (.cons (.p (.o2 .mul (.o2 .ix (.var 0) (.int 1)) (.o2 .ix (.var 1) (.int 1)))) .nil))))
 .nil) }
def fn_up_from : FnD := { ps := [Str.ofString "number"], N := [Str.ofString "number"], md := [], body :=
 (.cons (.ret (.p (.o1 .neg (.o2 .fdiv (.o1 .neg (.o2 .ix (.var 0) (.int 0))) (.o2 .ix (.var 0) (.int 1))))))
 .nil) }
def fn_is_whole : FnD := { ps := [Str.ofString "thing"], N := [Str.ofString "thing"], md := [], body :=
 (.cons (.ret (.p (.and (.o1 (.isi ["int"]) (.var 0)) (.o1 .not (.o1 (.isi ["bool"]) (.var 0))))))
 .nil) }
def fn_is_under : FnD := { ps := [Str.ofString "one", Str.ofString "other"], N := [Str.ofString "one", Str.ofString "other"], md := [], body :=
 (.cons (.ret (.p (.o2 .lt (.o2 .mul (.o2 .ix (.var 0) (.int 0)) (.o2 .ix (.var 1) (.int 1))) (.o2 .mul (.o2 .ix (.var 1) (.int 0)) (.o2 .ix (.var 0) (.int 1))))))
 .nil) }
def fn_kept_fraction : FnD := { ps := [Str.ofString "thing"], N := [Str.ofString "thing"], md := [], body :=
 (.cons (.ifs (.or (.o1 .not (.call (Str.ofString "is_row") [] (.cons (.p (.var 0)) (.cons (.p (.int 2)) .nil)))) (.or (.o1 .not (.call (Str.ofString "is_whole") [] (.cons (.p (.o2 .ix (.var 0) (.int 0))) .nil))) (.o1 .not (.call (Str.ofString "is_whole") [] (.cons (.p (.o2 .ix (.var 0) (.int 1))) .nil)))))
 (.cons (.ret (.p .non))
 .nil)
 .nil)
 (.cons (.ifs (.or (.p (.o2 .lt (.o2 .ix (.var 0) (.int 1)) (.int 1))) (.o2 .ne (.call (Str.ofString "common_divisor") [] (.cons (.p (.o2 .ix (.var 0) (.int 0))) (.cons (.p (.o2 .ix (.var 0) (.int 1))) .nil))) (.p (.int 1))))
 (.cons (.ret (.p .non))
 .nil)
 .nil)
 (.cons (.ret (.tup (.cons (.p (.o2 .ix (.var 0) (.int 0))) (.cons (.p (.o2 .ix (.var 0) (.int 1))) .nil))))
 .nil))) }
def fn_common_divisor : FnD := { ps := [Str.ofString "one", Str.ofString "other"], N := [Str.ofString "one", Str.ofString "other"], md := [], body :=
 (.cons (.par [0, 1] (.cons (.p (.o1 .abs (.var 0))) (.cons (.p (.o1 .abs (.var 1))) .nil)))
 (.cons (.whl (.p (.var 1))
 (.cons (.par [0, 1] (.cons (.p (.var 1)) (.cons (.p (.o2 .mod (.var 0) (.var 1))) .nil)))
 .nil))
 (.cons (.ret (.mv 0))
 .nil))) }
def fn_is_row : FnD := { ps := [Str.ofString "thing", Str.ofString "many"], N := [Str.ofString "thing", Str.ofString "many"], md := [], body :=
 (.cons (.ret (.and (.call (Str.ofString "is_list") [] (.cons (.p (.var 0)) .nil)) (.p (.o2 .eq (.o1 .len (.var 0)) (.var 1)))))
 .nil) }
def fn_is_list : FnD := { ps := [Str.ofString "thing"], N := [Str.ofString "thing"], md := [], body :=
 (.cons (.ret (.p (.o1 (.isi ["list", "tuple"]) (.var 0))))
 .nil) }
def bs : List Str := [Str.ofString "abs", Str.ofString "all", Str.ofString "bool", Str.ofString "dict", Str.ofString "int", Str.ofString "isinstance", Str.ofString "len", Str.ofString "list", Str.ofString "max", Str.ofString "min", Str.ofString "range", Str.ofString "str", Str.ofString "tuple", Str.ofString "zip"]
def gs : List Str := [Str.ofString "NOUGHT", Str.ofString "ONE"]
def kl : List (Str × List Str) := [(Str.ofString "trusting_day", [Str.ofString "said", Str.ofString "trust", Str.ofString "price"]), (Str.ofString "trusting_fractions", [Str.ofString "trust", Str.ofString "price"])]
def T : Tab := [(Str.ofString "law", fn_law),
 (Str.ofString "_law_both", fn__law_both),
 (Str.ofString "_law_day", fn__law_day),
 (Str.ofString "_law_draw", fn__law_draw),
 (Str.ofString "_law_frac", fn__law_frac),
 (Str.ofString "_law_over", fn__law_over),
 (Str.ofString "_law_plus", fn__law_plus),
 (Str.ofString "_law_same", fn__law_same),
 (Str.ofString "_law_stream", fn__law_stream),
 (Str.ofString "_law_under", fn__law_under),
 (Str.ofString "trusting_day", fn_trusting_day),
 (Str.ofString "trusting_fractions", fn_trusting_fractions),
 (Str.ofString "_law_buying", fn__law_buying),
 (Str.ofString "_law_greatest", fn__law_greatest),
 (Str.ofString "_law_times", fn__law_times),
 (Str.ofString "day_by", fn_day_by),
 (Str.ofString "is_one_up", fn_is_one_up),
 (Str.ofString "need_price", fn_need_price),
 (Str.ofString "need_trust", fn_need_trust),
 (Str.ofString "fraction_by", fn_fraction_by),
 (Str.ofString "greatest", fn_greatest),
 (Str.ofString "reduced", fn_reduced),
 (Str.ofString "over", fn_over),
 (Str.ofString "times", fn_times),
 (Str.ofString "up_from", fn_up_from),
 (Str.ofString "is_whole", fn_is_whole),
 (Str.ofString "is_under", fn_is_under),
 (Str.ofString "kept_fraction", fn_kept_fraction),
 (Str.ofString "common_divisor", fn_common_divisor),
 (Str.ofString "is_row", fn_is_row),
 (Str.ofString "is_list", fn_is_list)]
def fs : List Str := T.map (·.1)
theorem c_law : chkFn fs bs gs kl fn_law (top 43) = true := by decide +kernel
theorem c__law_both : chkFn fs bs gs kl fn__law_both (top 42) = true := by decide +kernel
theorem c__law_day : chkFn fs bs gs kl fn__law_day (top 41) = true := by decide +kernel
theorem c__law_draw : chkFn fs bs gs kl fn__law_draw (top 32) = true := by decide +kernel
theorem c__law_frac : chkFn fs bs gs kl fn__law_frac (top 34) = true := by decide +kernel
theorem c__law_over : chkFn fs bs gs kl fn__law_over (top 37) = true := by decide +kernel
theorem c__law_plus : chkFn fs bs gs kl fn__law_plus (top 35) = true := by decide +kernel
theorem c__law_same : chkFn fs bs gs kl fn__law_same (top 33) = true := by decide +kernel
theorem c__law_stream : chkFn fs bs gs kl fn__law_stream (top 31) = true := by decide +kernel
theorem c__law_under : chkFn fs bs gs kl fn__law_under (top 38) = true := by decide +kernel
theorem c_trusting_day : chkFn fs bs gs kl fn_trusting_day (top 28) = true := by decide +kernel
theorem c_trusting_fractions : chkFn fs bs gs kl fn_trusting_fractions (top 29) = true := by decide +kernel
theorem c__law_buying : chkFn fs bs gs kl fn__law_buying (top 40) = true := by decide +kernel
theorem c__law_greatest : chkFn fs bs gs kl fn__law_greatest (top 39) = true := by decide +kernel
theorem c__law_times : chkFn fs bs gs kl fn__law_times (top 36) = true := by decide +kernel
theorem c_day_by : chkFn fs bs gs kl fn_day_by (top 27) = true := by decide +kernel
theorem c_is_one_up : chkFn fs bs gs kl fn_is_one_up (top 21) = true := by decide +kernel
theorem c_need_price : chkFn fs bs gs kl fn_need_price (top 22) = true := by decide +kernel
theorem c_need_trust : chkFn fs bs gs kl fn_need_trust (top 25) = true := by decide +kernel
theorem c_fraction_by : chkFn fs bs gs kl fn_fraction_by (top 23) = true := by decide +kernel
theorem c_greatest : chkFn fs bs gs kl fn_greatest (top 15) = true := by decide +kernel
theorem c_reduced : chkFn fs bs gs kl fn_reduced (top 11) = true := by decide +kernel
theorem c_over : chkFn fs bs gs kl fn_over (top 13) = true := by decide +kernel
theorem c_times : chkFn fs bs gs kl fn_times (top 12) = true := by decide +kernel
theorem c_up_from : chkFn fs bs gs kl fn_up_from (top 26) = true := by decide +kernel
theorem c_is_whole : chkFn fs bs gs kl fn_is_whole (top 5) = true := by decide +kernel
theorem c_is_under : chkFn fs bs gs kl fn_is_under (top 14) = true := by decide +kernel
theorem c_kept_fraction : chkFn fs bs gs kl fn_kept_fraction (top 16) = true := by decide +kernel
theorem c_common_divisor : chkFn fs bs gs kl fn_common_divisor (top 10) = true := by decide +kernel
theorem c_is_row : chkFn fs bs gs kl fn_is_row (top 6) = true := by decide +kernel
theorem c_is_list : chkFn fs bs gs kl fn_is_list (top 4) = true := by decide +kernel
end K74
namespace K74
open PySem L2 Q
def tb : List (Str × List Int) := [(Str.ofString "NOUGHT", [0, 1]), (Str.ofString "ONE", [1, 1])]
end K74

namespace K74
open PySem L2 Q
abbrev NN : Nat := 10 ^ 120
abbrev Z (m : Nat) : EnvQ := envN T (constG tb) NN m
theorem big_NN {n : Nat} (h : n < big) : n < NN := Nat.lt_trans h (by decide)
theorem zN (m : Nat) : (Z m).N = NN := by cases m <;> rfl
theorem zG (m : Nat) : (Z m).G = constG tb := envN_G
section
variable {m : Nat}
theorem md0 {f : Str} {fn : FnD} (h : T.lookup f = some fn) (hm : fn.md = []) : (Z m).md f = [] := by rw [show (Z m).md f = fn.md from envN_md h, hm]
theorem ar2 {f : Str} {fn : FnD} (h : T.lookup f = some fn) : ((Z m).ar f).length = fn.ps.length := by rw [show (Z m).ar f = fn.ps from envN_ar h]
theorem suc {d : Nat} (h : d + 1 ≤ m) : ∃ k, m = k + 1 ∧ d ≤ k := ⟨m - 1, by omega, by omega⟩
theorem l_law : T.lookup (Str.ofString "law") = some fn_law := by rfl
theorem l_lboth : T.lookup (Str.ofString "_law_both") = some fn__law_both := by rfl
theorem l_lday : T.lookup (Str.ofString "_law_day") = some fn__law_day := by rfl
theorem l_draw : T.lookup (Str.ofString "_law_draw") = some fn__law_draw := by rfl
theorem l_frac : T.lookup (Str.ofString "_law_frac") = some fn__law_frac := by rfl
theorem l_lover : T.lookup (Str.ofString "_law_over") = some fn__law_over := by rfl
theorem l_lplus : T.lookup (Str.ofString "_law_plus") = some fn__law_plus := by rfl
theorem l_same : T.lookup (Str.ofString "_law_same") = some fn__law_same := by rfl
theorem l_stream : T.lookup (Str.ofString "_law_stream") = some fn__law_stream := by rfl
theorem l_lunder : T.lookup (Str.ofString "_law_under") = some fn__law_under := by rfl
theorem l_trusting_day : T.lookup (Str.ofString "trusting_day") = some fn_trusting_day := by rfl
theorem l_trusting_fractions : T.lookup (Str.ofString "trusting_fractions") = some fn_trusting_fractions := by rfl
theorem l_lbuying : T.lookup (Str.ofString "_law_buying") = some fn__law_buying := by rfl
theorem l_lgreatest : T.lookup (Str.ofString "_law_greatest") = some fn__law_greatest := by rfl
theorem l_ltimes : T.lookup (Str.ofString "_law_times") = some fn__law_times := by rfl
theorem l_day_by : T.lookup (Str.ofString "day_by") = some fn_day_by := by rfl
theorem l_is_one_up : T.lookup (Str.ofString "is_one_up") = some fn_is_one_up := by rfl
theorem l_need_price : T.lookup (Str.ofString "need_price") = some fn_need_price := by rfl
theorem l_need_trust : T.lookup (Str.ofString "need_trust") = some fn_need_trust := by rfl
theorem l_fraction_by : T.lookup (Str.ofString "fraction_by") = some fn_fraction_by := by rfl
theorem l_greatest : T.lookup (Str.ofString "greatest") = some fn_greatest := by rfl
theorem l_reduced : T.lookup (Str.ofString "reduced") = some fn_reduced := by rfl
theorem l_over : T.lookup (Str.ofString "over") = some fn_over := by rfl
theorem l_times : T.lookup (Str.ofString "times") = some fn_times := by rfl
theorem l_up_from : T.lookup (Str.ofString "up_from") = some fn_up_from := by rfl
theorem l_is_whole : T.lookup (Str.ofString "is_whole") = some fn_is_whole := by rfl
theorem l_is_under : T.lookup (Str.ofString "is_under") = some fn_is_under := by rfl
theorem l_kept_fraction : T.lookup (Str.ofString "kept_fraction") = some fn_kept_fraction := by rfl
theorem l_common_divisor : T.lookup (Str.ofString "common_divisor") = some fn_common_divisor := by rfl
theorem l_is_row : T.lookup (Str.ofString "is_row") = some fn_is_row := by rfl
theorem l_is_list : T.lookup (Str.ofString "is_list") = some fn_is_list := by rfl
theorem s_cd (h : 1 ≤ m) {a b : Nat} (hb : b < big) : (Z m).call (Str.ofString "common_divisor") [nD a, nD b] = .ok (nD (Nat.gcd a b), []) := by
  obtain ⟨k, rfl, _⟩ := suc h
  exact call_rt l_common_divisor rfl rfl (gcd_run (by rw [zN]; exact big_NN hb))
theorem s_reduced (h : 2 ≤ m) {a b : Nat} (hb0 : 0 < b) (hb : b < big) : (Z m).call (Str.ofString "reduced") [nD a, nD b] = .ok (fD (rd a b), []) := by
  obtain ⟨k, rfl, hk⟩ := suc h
  have hg : 0 < Nat.gcd a b := Nat.gcd_pos_of_pos_right _ hb0
  have hg2 : Nat.gcd a b < big := Nat.lt_of_le_of_lt (Nat.le_of_dvd hb0 (Nat.gcd_dvd_right a b)) hb
  have hg3 : ((Nat.gcd a b : Nat) : Int) ≠ 0 ∧ ((Nat.gcd a b : Nat) : Int).natAbs.log2 < 9000 := ⟨by omega, Nat.lt_trans (big_log hg2) (by decide)⟩
  refine call_rt (L' := [some (nD a), some (nD b), some (nD (Nat.gcd a b))]) l_reduced rfl rfl ?_
  show runSs (Z k) fn_reduced.body [some (nD a), some (nD b), none] = _
  unfold fn_reduced
  refine (nx_cons (asgE (call2v (md0 l_common_divisor rfl) (ar2 l_common_divisor) rfl rfl rfl rfl (s_cd hk hb) rfl))).trans ?_
  have e0 : pur (Z k).G (.o2 .lt (.var 1) (.int 0)) [some (nD a), some (nD b), some (nD (Nat.gcd a b))] = some (.bl false) := by
    show some (D.bl (decide ((b : Int) < 0))) = _
    rw [decide_eq_false (by omega)]
  refine (nx_cons (L1 := [some (nD a), some (nD b), some (nD (Nat.gcd a b))]) ((ifsP e0).trans (by simp only [Bool.false_eq_true, if_false]; rw [runs_nil]))).trans ?_
  have e1 : pur (Z k).G (.o2 .fdiv (.var 0) (.var 2)) [some (nD a), some (nD b), some (nD (Nat.gcd a b))] = some (nD (rd a b).1) := (pur2 (d := nD a) (e := nD (Nat.gcd a b)) rfl rfl).trans ((ap_fdiv hg3).trans (by rw [fdiv_nat]; rfl))
  have e2 : pur (Z k).G (.o2 .fdiv (.var 1) (.var 2)) [some (nD a), some (nD b), some (nD (Nat.gcd a b))] = some (nD (rd a b).2) := (pur2 (d := nD b) (e := nD (Nat.gcd a b)) rfl rfl).trans ((ap_fdiv hg3).trans (by rw [fdiv_nat]; rfl))
  exact rt_cons (retE (tup2 e1 e2 rfl rfl))
theorem ixF0 {G : Str → Option D} {L : Lcs} {i : Nat} {p : Nat × Nat} (h : L[i]? = some (some (fD p))) : pur G (.o2 .ix (.var i) (.int 0)) L = some (nD p.1) := (pur2 (d := fD p) (e := .int 0) (by simp only [pur, h]) rfl).trans rfl
theorem ixF1 {G : Str → Option D} {L : Lcs} {i : Nat} {p : Nat × Nat} (h : L[i]? = some (some (fD p))) : pur G (.o2 .ix (.var i) (.int 1)) L = some (nD p.2) := (pur2 (d := fD p) (e := .int 1) (by simp only [pur, h]) rfl).trans rfl
def sz (p : Nat × Nat) : Bool := Nat.blt p.1 big && Nat.blt p.2 big
theorem sz_ok {p : Nat × Nat} (h : sz p = true) : p.1 < big ∧ p.2 < big := by
  simp only [sz, Bool.and_eq_true] at h
  exact ⟨by simpa [Nat.blt_eq] using h.1, by simpa [Nat.blt_eq] using h.2⟩
def rdO (a b : Nat) : Option (Nat × Nat) := if Nat.blt 0 b && sz (a, b) then some (rd a b) else none
theorem rdO_ok {a b : Nat} {r : Nat × Nat} (h : rdO a b = some r) : 0 < b ∧ a < big ∧ b < big ∧ r = rd a b := by
  unfold rdO at h
  split at h <;> simp only [Option.some.injEq, reduceCtorEq] at h
  rename_i hc
  simp only [Bool.and_eq_true] at hc
  have := sz_ok hc.2
  exact ⟨by simpa [Nat.blt_eq] using hc.1, this.1, this.2, h.symm⟩
def plusO (p q : Nat × Nat) : Option (Nat × Nat) := if sz p && sz q then rdO (p.1 * q.2 + q.1 * p.2) (p.2 * q.2) else none
def timesO (p q : Nat × Nat) : Option (Nat × Nat) := if sz p && sz q then rdO (p.1 * q.1) (p.2 * q.2) else none
def underO (p q : Nat × Nat) : Option Bool := if sz p && sz q then some (Nat.blt (p.1 * q.2) (q.1 * p.2)) else none
theorem s_times (h : 3 ≤ m) {p q r : Nat × Nat} (e : timesO p q = some r) : (Z m).call (Str.ofString "times") [fD p, fD q] = .ok (fD r, []) := by
  obtain ⟨k, rfl, hk⟩ := suc h
  unfold timesO at e
  split at e <;> try (cases e)
  rename_i hs
  simp only [Bool.and_eq_true] at hs
  have s1 := sz_ok hs.1
  have s2 := sz_ok hs.2
  obtain ⟨r1, r2, r3, rfl⟩ := rdO_ok e
  refine call_rt (L' := [some (fD p), some (fD q)]) l_times rfl rfl ?_
  show runSs (Z k) fn_times.body [some (fD p), some (fD q)] = _
  exact rt_cons (retE (call2 (md0 l_reduced rfl) (ar2 l_reduced) (mulN (ixF0 rfl) (ixF0 rfl) s1.1 s2.1) (mulN (ixF1 rfl) (ixF1 rfl) s1.2 s2.2) rfl rfl rfl rfl rfl rfl (s_reduced hk r1 r3) rfl))
theorem ltN {G : Str → Option D} {L : Lcs} {p q : P} {a b : Nat} (hp : pur G p L = some (nD a)) (hq : pur G q L = some (nD b)) : pur G (.o2 .lt p q) L = some (.bl (Nat.blt a b)) := by
  refine (pur2 hp hq).trans ?_
  show some (D.bl (decide ((a : Int) < (b : Int)))) = _
  congr 2
  by_cases h : a < b
  · rw [decide_eq_true (by omega)]; exact (Nat.blt_eq.mpr h).symm
  · rw [decide_eq_false (by omega)]; exact (Bool.eq_false_iff.mpr fun z => h (Nat.blt_eq.mp z)).symm
theorem s_under (h : 1 ≤ m) {p q : Nat × Nat} {r : Bool} (e : underO p q = some r) : (Z m).call (Str.ofString "is_under") [fD p, fD q] = .ok (.bl r, []) := by
  obtain ⟨k, rfl, hk⟩ := suc h
  unfold underO at e
  split at e <;> try (cases e)
  rename_i hs
  simp only [Bool.and_eq_true] at hs
  have s1 := sz_ok hs.1
  have s2 := sz_ok hs.2
  refine call_rt (L' := [some (fD p), some (fD q)]) l_is_under rfl rfl ?_
  show runSs (Z k) fn_is_under.body [some (fD p), some (fD q)] = _
  exact rt_cons (retP (ltN (mulN (ixF0 rfl) (ixF1 rfl) s1.1 s2.2) (mulN (ixF0 rfl) (ixF1 rfl) s2.1 s1.2)) rfl)
theorem s_frac (h : 1 ≤ m) {a b : Nat} {r : Nat × Nat} (e : rdO a b = some r) : (Z m).call (Str.ofString "_law_frac") [nD a, nD b] = .ok (fD r, []) := by
  obtain ⟨k, rfl, hk⟩ := suc h
  obtain ⟨r1, r2, r3, rfl⟩ := rdO_ok e
  obtain ⟨L', e1⟩ := frac_run (V := Z k) (a := a) (b := b) (by rw [zN]; exact big_NN r3) r1 r2 r3
  exact call_rt l_frac rfl rfl e1
theorem s_lplus (h : 2 ≤ m) {p q r : Nat × Nat} (e : plusO p q = some r) : (Z m).call (Str.ofString "_law_plus") [fD p, fD q] = .ok (fD r, []) := by
  obtain ⟨k, rfl, hk⟩ := suc h
  unfold plusO at e
  split at e <;> try (cases e)
  rename_i hs
  simp only [Bool.and_eq_true] at hs
  have s1 := sz_ok hs.1
  have s2 := sz_ok hs.2
  refine call_rt (L' := [some (fD p), some (fD q)]) l_lplus rfl rfl ?_
  show runSs (Z k) fn__law_plus.body [some (fD p), some (fD q)] = _
  exact rt_cons (retE (call2 (md0 l_frac rfl) (ar2 l_frac) (addN (mulN (ixF0 rfl) (ixF1 rfl) s1.1 s2.2) (mulN (ixF0 rfl) (ixF1 rfl) s2.1 s1.2)) (mulN (ixF1 rfl) (ixF1 rfl) s1.2 s2.2) rfl rfl rfl rfl rfl rfl (s_frac hk e) rfl))
theorem s_ltimes (h : 2 ≤ m) {p q r : Nat × Nat} (e : timesO p q = some r) : (Z m).call (Str.ofString "_law_times") [fD p, fD q] = .ok (fD r, []) := by
  obtain ⟨k, rfl, hk⟩ := suc h
  unfold timesO at e
  split at e <;> try (cases e)
  rename_i hs
  simp only [Bool.and_eq_true] at hs
  have s1 := sz_ok hs.1
  have s2 := sz_ok hs.2
  refine call_rt (L' := [some (fD p), some (fD q)]) l_ltimes rfl rfl ?_
  show runSs (Z k) fn__law_times.body [some (fD p), some (fD q)] = _
  exact rt_cons (retE (call2 (md0 l_frac rfl) (ar2 l_frac) (mulN (ixF0 rfl) (ixF0 rfl) s1.1 s2.1) (mulN (ixF1 rfl) (ixF1 rfl) s1.2 s2.2) rfl rfl rfl rfl rfl rfl (s_frac hk e) rfl))
theorem s_lunder (h : 1 ≤ m) {p q : Nat × Nat} {r : Bool} (e : underO p q = some r) : (Z m).call (Str.ofString "_law_under") [fD p, fD q] = .ok (.bl r, []) := by
  obtain ⟨k, rfl, hk⟩ := suc h
  unfold underO at e
  split at e <;> try (cases e)
  rename_i hs
  simp only [Bool.and_eq_true] at hs
  have s1 := sz_ok hs.1
  have s2 := sz_ok hs.2
  refine call_rt (L' := [some (fD p), some (fD q)]) l_lunder rfl rfl ?_
  show runSs (Z k) fn__law_under.body [some (fD p), some (fD q)] = _
  exact rt_cons (retP (ltN (mulN (ixF0 rfl) (ixF1 rfl) s1.1 s2.2) (mulN (ixF0 rfl) (ixF1 rfl) s2.1 s1.2)) rfl)
def lD (xs : List (Nat × Nat)) : D := .lst false (xs.map fD)
theorem lD_fz (xs : List (Nat × Nat)) : (lD xs).fz = lD xs := by simp only [lD, D.fz, fzs_map (f := fD) fun _ => rfl]
theorem lD_no (xs : List (Nat × Nat)) : (lD xs).noOwn = true := by
  simp only [lD, D.noOwn]
  simpa using noOwns_map (f := fD) (fun _ => rfl) xs
theorem lD_els (xs : List (Nat × Nat)) : (lD xs).fz.els = some (xs.map fD) := by rw [lD_fz]; rfl
def grO (f t : Nat × Nat) : Option (Nat × Nat) := match underO f t with | some b => some (if b then t else f) | none => none
def greatestO (xs : List (Nat × Nat)) : Option (Nat × Nat) := match xs with | [] => none | x :: _ => xs.foldlM grO x
theorem s_greatest (h : 2 ≤ m) {xs : List (Nat × Nat)} {r : Nat × Nat} (e : greatestO xs = some r) : (Z m).call (Str.ofString "greatest") [lD xs] = .ok (fD r, []) := by
  obtain ⟨k, rfl, hk⟩ := suc h
  cases xs with
  | nil => cases e
  | cons x0 xs =>
    have e : (x0 :: xs).foldlM grO x0 = some r := e
    generalize hX : x0 :: xs = X at e
    have s0 : runS (Z k) (.asg (.nm 1) (.p (.o2 .ix (.var 0) (.int 0)))) [some (lD X), none, none] = .nx [some (lD X), some (fD x0), none] := by
      refine (asgP (x := fD x0) ?_ rfl).trans rfl
      subst hX
      refine (pur2 (d := lD (x0 :: xs)) (e := .int 0) rfl rfl).trans ?_
      show atI ((x0 :: xs).map fD) 0 = _
      unfold atI ixN
      rw [if_pos (by decide), if_pos (by simp only [List.length_map, List.length_cons]; omega)]
      rfl
    obtain ⟨L', e1, o, e2⟩ := forRun_foldM (tg := .nm 2) (body := fun L => runSs (Z k) (.cons (.asg (.nm 1) (.ife (.call (Str.ofString "is_under") [] (.cons (.p (.var 1)) (.cons (.p (.var 2)) .nil))) (.p (.var 2)) (.p (.var 1)))) .nil) L) fD grO (fun a L => ∃ o, L = [some (lD X), some (fD a), o]) X x0 r [some (lD X), some (fD x0), none] ⟨none, rfl⟩ e (by
      rintro x _ a a' _ ⟨o, rfl⟩ ea
      refine ⟨[some (lD X), some (fD a), some (fD x)], [some (lD X), some (fD a'), some (fD x)], rfl, ?_, ⟨some (fD x), rfl⟩⟩
      unfold grO at ea
      split at ea <;> simp only [Option.some.injEq, reduceCtorEq] at ea
      rename_i b hb
      subst ea
      have ec : den (Z k) (.call (Str.ofString "is_under") [] (.cons (.p (.var 1)) (.cons (.p (.var 2)) .nil))) [some (lD X), some (fD a), some (fD x)] = .ok (.bl b, [some (lD X), some (fD a), some (fD x)]) := call2v (md0 l_is_under rfl) (ar2 l_is_under) rfl rfl rfl rfl (s_under hk hb) rfl
      refine (nx_cons (asgE (d := fD (if b then x else a)) (L1 := [some (lD X), some (fD a), some (fD x)]) ?_)).trans ?_
      · rw [den_ife]
        show ((den (Z k) (.call (Str.ofString "is_under") [] (.cons (.p (.var 1)) (.cons (.p (.var 2)) .nil))) [some (lD X), some (fD a), some (fD x)]).bind _) = _
        rw [ec]
        cases b
        · simp only [Res.bind, tru, Res.of, Bool.false_eq_true, if_false]; rw [den_p]; rfl
        · simp only [Res.bind, tru, Res.of, if_true]; rw [den_p]; rfl
      · rw [runs_nil]; rfl)
    subst e2
    refine call_rt (L' := [some (lD X), none, o]) l_greatest rfl rfl ?_
    show runSs (Z k) fn_greatest.body [some (lD X), none, none] = _
    refine (nx_cons s0).trans ((nx_cons (for_nx (src_var rfl (lD_no X) (lD_els X)) e1)).trans (rt_cons ?_))
    rw [run_ret, den_mv]; rfl
theorem s_whole (h : 1 ≤ m) (i : Int) : (Z m).call (Str.ofString "is_whole") [.int i] = .ok (.bl true, []) := by
  obtain ⟨k, rfl, _⟩ := suc h
  exact call_rt (L' := [some (.int i)]) l_is_whole rfl rfl rfl
theorem lst_fD (L : List (Nat × Nat)) : (D.lst true (L.map fD)).fz = lD L := by simp only [D.fz, lD, fzs_map (f := fD) fun _ => rfl]
def lgreatestO (xs : List (Nat × Nat)) : Option (Nat × Nat) := match xs with | [] => none | x :: r => r.foldlM grO x
theorem s_lgreatest (h : 2 ≤ m) {xs : List (Nat × Nat)} {r : Nat × Nat} (e : lgreatestO xs = some r) : (Z m).call (Str.ofString "_law_greatest") [lD xs] = .ok (fD r, []) := by
  obtain ⟨k, rfl, hk⟩ := suc h
  cases xs with
  | nil => cases e
  | cons x0 xs =>
    have e : xs.foldlM grO x0 = some r := e
    generalize hX : lD (x0 :: xs) = X
    have s0 : runS (Z k) (.asg (.nm 1) (.p (.o2 .ix (.var 0) (.int 0)))) [some X, none, none] = .nx [some X, some (fD x0), none] := by
      refine (asgP (x := fD x0) ?_ rfl).trans rfl
      subst hX
      exact (pur2 (d := lD (x0 :: xs)) (e := .int 0) rfl rfl).trans (atN (f := fD) (xs := x0 :: xs) (i := 0) rfl)
    have s1 : src (Z k) (.e (.slice (.p (.var 0)) (.cons (.p (.int 1)) .nil) .nil)) [some X, some (fD x0), none] = .ok (xs.map fD, [some X, some (fD x0), none]) := by
      subst hX
      rw [src_e, den_slice]
      have w : seqW (Z k) (.p (.var 0)) (fun L => den (Z k) (.p (.var 0)) L) [some (lD (x0 :: xs)), some (fD x0), none] = .ok (lD (x0 :: xs), [some (lD (x0 :: xs)), some (fD x0), none]) := by
        have hn : D.noOwns ((x0 :: xs).map fD) = true := noOwns_map (f := fD) (fun _ => rfl) _
        show (match (some (lD (x0 :: xs)) : Option D) with | some d => (match d.els with | some ds => if D.noOwns ds then Res.ok (d, [some (lD (x0 :: xs)), some (fD x0), none]) else _ | none => .bad) | none => .bad) = _
        simp only [lD, D.els]
        rw [if_pos hn]
      rw [w]
      have c : cutO (Z k).G (.cons (.p (.int 1)) .nil) .nil [some (lD (x0 :: xs)), some (fD x0), none] (lD (x0 :: xs)) = some (.lst true (xs.map fD)) := by
        show some (D.lst true (cutP ((x0 :: xs).map fD) (some 1) none)) = _
        congr 2
        unfold cutP
        have e1 : HT.sIx ((x0 :: xs).map fD).length 0 (some 1) = 1 := by
          exact (HT.sIx_nat _ 0 1).trans (by simp)
        have e2 : HT.sIx ((x0 :: xs).map fD).length ((x0 :: xs).map fD).length none = xs.length + 1 := by simp [HT.sIx]
        rw [e1, e2]
        simp only [List.map_cons, List.drop_succ_cons, List.drop_zero, Nat.add_sub_cancel]
        exact List.take_of_length_le (by simp)
      simp only [Res.bind, c, Res.of, seqF, D.fz, D.els, fzs_map (f := fD) fun _ => rfl]
    obtain ⟨L', e1, o, e2⟩ := forRun_foldM (tg := .nm 2) (body := fun L => runSs (Z k) (.cons (.asg (.nm 1) (.ife (.call (Str.ofString "_law_under") [] (.cons (.p (.var 1)) (.cons (.p (.var 2)) .nil))) (.p (.var 2)) (.p (.var 1)))) .nil) L) fD grO (fun a L => ∃ o, L = [some X, some (fD a), o]) xs x0 r [some X, some (fD x0), none] ⟨none, rfl⟩ e (by
      rintro x _ a a' _ ⟨o, rfl⟩ ea
      refine ⟨[some X, some (fD a), some (fD x)], [some X, some (fD a'), some (fD x)], rfl, ?_, ⟨some (fD x), rfl⟩⟩
      unfold grO at ea
      split at ea <;> simp only [Option.some.injEq, reduceCtorEq] at ea
      rename_i b hb
      subst ea
      have ec : den (Z k) (.call (Str.ofString "_law_under") [] (.cons (.p (.var 1)) (.cons (.p (.var 2)) .nil))) [some X, some (fD a), some (fD x)] = .ok (.bl b, [some X, some (fD a), some (fD x)]) := call2v (md0 l_lunder rfl) (ar2 l_lunder) rfl rfl rfl rfl (s_lunder hk hb) rfl
      refine (nx_cons (asgE (d := fD (if b then x else a)) (L1 := [some X, some (fD a), some (fD x)]) ?_)).trans ?_
      · rw [den_ife]
        show ((den (Z k) (.call (Str.ofString "_law_under") [] (.cons (.p (.var 1)) (.cons (.p (.var 2)) .nil))) [some X, some (fD a), some (fD x)]).bind _) = _
        rw [ec]
        cases b
        · simp only [Res.bind, tru, Res.of, Bool.false_eq_true, if_false]; rw [den_p]; rfl
        · simp only [Res.bind, tru, Res.of, if_true]; rw [den_p]; rfl
      · rw [runs_nil]; rfl)
    subst e2
    refine call_rt (L' := [some X, none, o]) l_lgreatest rfl rfl ?_
    show runSs (Z k) fn__law_greatest.body [some X, none, none] = _
    refine (nx_cons s0).trans ((nx_cons (for_nx s1 e1)).trans (rt_cons ?_))
    rw [run_ret, den_mv]; rfl
theorem s_draw (h : 1 ≤ m) {ns : List Int} {a b c : Int} {M : Nat} (hn : ns.length ≤ 63) (ha : 0 ≤ a) (hb : 0 ≤ b ∧ b < 1000000) (hc : 0 ≤ c ∧ c < 2147483647) (hm : 0 < M ∧ M < 1000) :
    ∃ ns' a' c' k, ns'.length ≤ 63 ∧ 0 ≤ a' ∧ (0 ≤ c' ∧ c' < 2147483647) ∧ k < M ∧ (Z m).call (Str.ofString "_law_draw") [strD ns a b c, nD M] = .ok (nD k, [some (strD ns' a' (b + 1) c')]) := by
  obtain ⟨j, rfl, _⟩ := suc h
  obtain ⟨ns', a', c', L', k, g1, g2, g3, g4, e⟩ := draw_run (V := Z j) (ns := ns) (a := a) (b := b) (c := c) (m := (M : Int)) (by rw [zN]; exact Nat.lt_of_le_of_lt hn (by decide)) ha hb hc (by omega)
  refine ⟨ns', a', c', k.toNat, by omega, g2, g3, by omega, ?_⟩
  have hk : nD k.toNat = .int k := by show D.int ((k.toNat : Nat) : Int) = _; rw [Int.toNat_of_nonneg g4.1]
  rw [hk, show (Z (j + 1)).call (Str.ofString "_law_draw") [strD ns a b c, nD M] = callF (Z j) fn__law_draw [strD ns a b c, nD M] from envN_call l_draw _]
  show retF [true] (runSs (Z j) drawBody [some (strD ns a b c), some (.int (M : Int)), none, none, none]) = _
  rw [e]
  show Res.ok (D.int k, ioOuts [true] (some (strD ns' a' (b + 1) c') :: L')) = _
  cases L' <;> rfl
theorem strD_noSh (ns : List Int) (a b c : Int) : (strD ns a b c).noSh = true := by
  simp only [strD, D.noSh, D.noShs, noShs_map (f := D.int) fun _ => rfl, Bool.and_self]
theorem den_draw {V : EnvQ} {L : Lcs} {q : E} {a2 : Q.Arg} {S S' : D} {M k : Nat} (hmd : V.md (Str.ofString "_law_draw") = [true]) (har : (V.ar (Str.ofString "_law_draw")).length = 2) (hL : L[1]? = some (some S)) (hq : args V [] (.cons q .nil) L = .ok ([a2], L)) (hv : argVals [.io 1, a2] L = some ([S, nD M], L.set 1 none)) (ho : lentOk [.io 1, a2] (L.set 1 none) = true) (hc : V.call (Str.ofString "_law_draw") [S, nD M] = .ok (nD k, [some S'])) (hs : S'.noSh = true)
    (hp : putBack [.io 1, a2] [some S'] (L.set 1 none) = some (L.set 1 (some S'))) : den V (.call (Str.ofString "_law_draw") [] (.cons (.p (.var 1)) (.cons q .nil))) L = .ok (nD k, L.set 1 (some S')) := by
  rw [den_call, hmd, arg_io (d := S) rfl hL hq]
  simp only [Res.bind, har, List.length_cons, List.length_nil, if_true]
  unfold callRun
  rw [hv]
  simp only [ho, if_true, hc, outNoSh, hs, D.noSh, Bool.and_self, hp]
theorem s_same {kk : Nat} (h : kk ≤ m) {d e : D} (fd : d.fz = d) (fe : e.fz = e) (nd : d.noOwn = true) (ne : e.noOwn = true) (hs : sm kk d e = true) : (Z m).call (Str.ofString "_law_same") [d, e] = .ok (.bl true, []) := same_ok kk h l_same rfl rfl rfl rfl rfl fd fe nd ne hs
theorem smF (k : Nat) (p : Nat × Nat) : sm (k + 2) (fD p) (fD p) = true := by simp [sm]
theorem smL2 {k : Nat} {d e : D} (h1 : sm k d d = true) (h2 : sm k e e = true) : sm (k + 1) (.lst false [d, e]) (.lst false [d, e]) = true := by simp [sm, h1, h2]
theorem notSame {V : EnvQ} {L L2 : Lcs} {e1 e2 : E} {a1 a2 : Q.Arg} {d1 d2 : D} (hmd : V.md (Str.ofString "_law_same") = []) (har : (V.ar (Str.ofString "_law_same")).length = 2) (ha : args V [] (.cons e1 (.cons e2 .nil)) L = .ok ([a1, a2], L2)) (hv : argVals [a1, a2] L2 = some ([d1, d2], L2)) (ho : lentOk [a1, a2] L2 = true) (hp : putBack [a1, a2] [] L2 = some L2) (hc : V.call (Str.ofString "_law_same") [d1, d2] = .ok (.bl true, [])) :
    rdW V (.o1 .not (.call (Str.ofString "_law_same") [] (.cons e1 (.cons e2 .nil)))) (fun L => den V (.o1 .not (.call (Str.ofString "_law_same") [] (.cons e1 (.cons e2 .nil)))) L) L = .ok (.bl false, L2) := by
  show den V (.o1 .not (.call (Str.ofString "_law_same") [] (.cons e1 (.cons e2 .nil)))) L = _
  rw [den_o1]
  show ((den V (.call (Str.ofString "_law_same") [] (.cons e1 (.cons e2 .nil))) L).bind _) = _
  rw [callOk hmd ha (by rw [har]; rfl) hv ho hc rfl hp]
  rfl
theorem ifsF {V : EnvQ} {L L1 : Lcs} {c : E} {a : Ss} (h : rdW V c (fun L => den V c L) L = .ok (.bl false, L1)) : runS V (.ifs c a .nil) L = .nx L1 := by
  rw [run_ifs, h]
  show runSs V .nil L1 = _
  rw [runs_nil]
theorem orFF {V : EnvQ} {L L1 L2 : Lcs} {a b : E} (h1 : rdW V a (fun L => den V a L) L = .ok (.bl false, L1)) (h2 : rdW V b (fun L => den V b L) L1 = .ok (.bl false, L2)) : rdW V (.or a b) (fun L => den V (.or a b) L) L = .ok (.bl false, L2) := by
  show den V (.or a b) L = _
  rw [den_or, h1]
  show ((rdW V b (fun L => den V b L) L1).bind _) = _
  rw [h2]; rfl
theorem lst2 {V : EnvQ} {L L1 L2 : Lcs} {a b : E} {d e : D} (h1 : den V a L = .ok (d, L1)) (h2 : den V b L1 = .ok (e, L2)) : den V (.lst (.cons a (.cons b .nil))) L = .ok (.lst true [d, e], L2) := by
  rw [den_lst, dens_cons, h1]
  simp only [Res.bind]
  rw [dens_cons, h2]
  simp only [Res.bind]
  rw [dens_nil]
structure StOk (S : D) (n : Nat) : Prop where
  ex : ∃ (ns : List Int) (a b c : Int), S = strD ns a b c ∧ ns.length ≤ 63 ∧ 0 ≤ a ∧ (0 ≤ b ∧ b ≤ n) ∧ (0 ≤ c ∧ c < 2147483647)
theorem StOk.sh {S : D} {n : Nat} (h : StOk S n) : S.noSh = true := by
  obtain ⟨ns, a, b, c, rfl, _⟩ := h.ex
  exact strD_noSh ns a b c
theorem st_draw {m : Nat} (h : 1 ≤ m) {S : D} {n M : Nat} (s : StOk S n) (hn : n < 1000) (hM : 0 < M ∧ M < 1000) : ∃ S' j, StOk S' (n + 1) ∧ j < M ∧ (Z m).call (Str.ofString "_law_draw") [S, nD M] = .ok (nD j, [some S']) := by
  obtain ⟨ns, a, b, c, rfl, h1, h2, h3, h4⟩ := s.ex
  obtain ⟨ns', a', c', j, g1, g2, g3, g4, e⟩ := s_draw h h1 h2 (by omega : 0 ≤ b ∧ b < 1000000) h4 hM
  exact ⟨_, j, ⟨⟨ns', a', b + 1, c', rfl, g1, g2, by omega, g3⟩⟩, g4, e⟩
theorem mdD {m : Nat} : (Z m).md (Str.ofString "_law_draw") = [true] := envN_md l_draw
theorem s_stream (h : 1 ≤ m) (ns : List Int) : (Z m).call (Str.ofString "_law_stream") [.frz (ns.map D.int)] = .ok (strD ns 0 0 17, []) := by
  obtain ⟨j, rfl, _⟩ := suc h
  refine call_rt (L' := [none]) l_stream rfl rfl ?_
  show runSs (Z j) fn__law_stream.body [some (.frz (ns.map D.int))] = _
  refine rt_cons (retE ?_)
  have e1 : den (Z j) (.sq .list (.mv 0)) [some (.frz (ns.map D.int))] = .ok (.lst true (ns.map D.int), [none]) := by
    rw [den_sq]
    show ((den (Z j) (.mv 0) [some (.frz (ns.map D.int))]).bind _) = _
    rw [den_mv]; rfl
  rw [den_lst, dens_cons, e1]
  simp only [Res.bind]
  rw [dens_cons, keepD (d := .int 0) rfl rfl]
  simp only [Res.bind]
  rw [dens_cons, keepD (d := .int 0) rfl rfl]
  simp only [Res.bind]
  rw [dens_cons, keepD (d := .int 17) rfl rfl]
  simp only [Res.bind]
  rw [dens_nil]
  rfl
theorem lst1 {V : EnvQ} {L : Lcs} {a : E} {x : D} (h1 : den V a L = .ok (x, L)) : den V (.lst (.cons a .nil)) L = .ok (.lst true [x], L) := by
  rw [den_lst, dens_cons, h1]
  simp only [Res.bind]
  rw [dens_nil]
end
end K74

namespace K74
open PySem L2 Q
section
variable {m : Nat}
abbrev F := Nat × Nat
def overO (p q : F) : Option F := if sz p && sz q then rdO (p.1 * q.2) (p.2 * q.1) else none
theorem s_over (h : 3 ≤ m) {p q r : F} (e : overO p q = some r) : (Z m).call (Str.ofString "over") [fD p, fD q] = .ok (fD r, []) := by
  obtain ⟨k, rfl, hk⟩ := suc h
  unfold overO at e
  split at e <;> try (cases e)
  rename_i hs
  simp only [Bool.and_eq_true] at hs
  have s1 := sz_ok hs.1
  have s2 := sz_ok hs.2
  obtain ⟨r1, r2, r3, rfl⟩ := rdO_ok e
  refine call_rt l_over rfl rfl (L' := [some (fD p), some (fD q)]) ?_
  exact q_ret (call2 (md0 l_reduced rfl) (ar2 l_reduced) (mulN (ixF0 rfl) (ixF1 rfl) s1.1 s2.2) (mulN (ixF1 rfl) (ixF0 rfl) s1.2 s2.1) rfl rfl rfl rfl rfl rfl (s_reduced hk r1 r3) rfl)
theorem s_lover (h : 2 ≤ m) {p q r : F} (e : overO p q = some r) : (Z m).call (Str.ofString "_law_over") [fD p, fD q] = .ok (fD r, []) := by
  obtain ⟨k, rfl, hk⟩ := suc h
  unfold overO at e
  split at e <;> try (cases e)
  rename_i hs
  simp only [Bool.and_eq_true] at hs
  have s1 := sz_ok hs.1
  have s2 := sz_ok hs.2
  refine call_rt l_lover rfl rfl (L' := [some (fD p), some (fD q)]) ?_
  exact q_ret (call2 (md0 l_frac rfl) (ar2 l_frac) (mulN (ixF0 rfl) (ixF1 rfl) s1.1 s2.2) (mulN (ixF1 rfl) (ixF0 rfl) s1.2 s2.1) rfl rfl rfl rfl rfl rfl (s_frac hk e) rfl)
theorem s_one_up (h : 2 ≤ m) {n : Nat} (hn : 1 ≤ n) : (Z m).call (Str.ofString "is_one_up") [nD n] = .ok (.bl true, []) := by
  obtain ⟨k, rfl, hk⟩ := suc h
  refine call_rt l_is_one_up rfl rfl (L' := [some (nD n)]) ?_
  have e : pur (Z k).G (.o2 .gt (.var 0) (.int 0)) [some (nD n)] = some (.bl true) := by
    rw [gtN (a := n) (b := 0) rfl rfl, Nat.blt_eq.mpr hn]
  exact q_ret (x_and (rdE (h := cal l_is_whole (a_bor rfl a_end) (s_whole hk _))) (rdP e))
theorem s_need_price (h : 3 ≤ m) {n : Nat} (hn : 1 ≤ n) : (Z m).call (Str.ofString "need_price") [nD n] = .ok (.non, []) := by
  obtain ⟨k, rfl, hk⟩ := suc h
  refine call_nx l_need_price rfl rfl (L' := [some (nD n)]) ?_
  exact q_if0 (x_notR (rdE (h := cal l_is_one_up (a_bor rfl a_end) (s_one_up hk hn)))) q_nil
/-- a fraction as a tuple, as a list -/
def frac? (t : F) (d : D) : Prop := d = fD t ∨ d = .lst false [nD t.1, nD t.2]
theorem s_list (h : 1 ≤ m) {t : F} {d : D} (hd : frac? t d) : (Z m).call (Str.ofString "is_list") [d] = .ok (.bl true, []) := by
  obtain ⟨k, rfl, hk⟩ := suc h
  rcases hd with rfl | rfl <;> exact call_rt (L' := [some _]) l_is_list rfl rfl rfl
theorem s_row (h : 2 ≤ m) {t : F} {d : D} (hd : frac? t d) : (Z m).call (Str.ofString "is_row") [d, nD 2] = .ok (.bl true, []) := by
  obtain ⟨k, rfl, hk⟩ := suc h
  have s := s_list hk hd
  rcases hd with rfl | rfl
  · exact call_rt l_is_row rfl rfl (q_ret (x_and (rdE (h := cal l_is_list (a_bor rfl a_end) s)) (rdP (d := .bl true) rfl)))
  · exact call_rt l_is_row rfl rfl (q_ret (x_and (rdE (h := cal l_is_list (a_bor rfl a_end) s)) (rdP (d := .bl true) rfl)))
theorem s_kept (h : 3 ≤ m) {t : F} {d : D} (hd : frac? t d) (h1 : 0 < t.2) (hg : Nat.gcd t.1 t.2 = 1) (hb : t.2 < big) : (Z m).call (Str.ofString "kept_fraction") [d] = .ok (fD t, []) := by
  obtain ⟨k, rfl, hk⟩ := suc h
  have s := s_row hk hd
  have p0 : pur (Z k).G (.o2 .ix (.var 0) (.int 0)) [some d] = some (nD t.1) := by rcases hd with rfl | rfl <;> rfl
  have p1 : pur (Z k).G (.o2 .ix (.var 0) (.int 1)) [some d] = some (nD t.2) := by rcases hd with rfl | rfl <;> rfl
  have fz : d.fz = d := by rcases hd with rfl | rfl <;> rfl
  have no : d.noOwn = true := by rcases hd with rfl | rfl <;> rfl
  have hv : ∀ L, L = ([some d] : Lcs) → argVals [.bor 0, .val (nD 2)] L = some ([d, nD 2], L) := fun L e => by subst e; show some ([d.fz, nD 2], _) = _; rw [fz]
  refine call_rt l_kept_fraction rfl rfl (L' := [some d]) ?_
  have e1 : pur (Z k).G (.o2 .lt (.o2 .ix (.var 0) (.int 1)) (.int 1)) [some d] = some (.bl false) := by
    rw [ltNb (a := t.2) (b := 1) p1 rfl]
    have : Nat.blt t.2 1 = false := Bool.eq_false_iff.mpr fun z => by have := Nat.blt_eq.mp z; omega
    rw [this]
  refine q_if0 (L1 := [some d]) (x_orR (x_notR (rdE (h := cal l_is_row (a_bor rfl (a_val (keepD (d := nD 2) rfl rfl) a_end)) s (hv := hv _ rfl)))) (x_orR (x_notR (rdE (h := cal l_is_whole (a_val (keepD p0 rfl) a_end) (s_whole (by omega) _)))) (x_notR (rdE (h := cal l_is_whole (a_val (keepD p1 rfl) a_end) (s_whole (by omega) _)))))) ?_
  refine q_if0 (L1 := [some d]) (x_orR (rdP e1) (rdE (h := x_o2 (o := .ne) (d1 := nD (Nat.gcd t.1 t.2)) (cal l_common_divisor (a_val (keepD p0 rfl) (a_val (keepD p1 rfl) a_end)) (s_cd (by omega) hb)) (rdP (d := nD 1) rfl) (d := .bl false) (by rw [hg]; rfl)))) ?_
  exact q_ret (x_tup (q_cons (keepD p0 rfl) (q_cons (keepD p1 rfl) q_end)))
theorem s_need_trust (h : 4 ≤ m) {t : F} {d : D} (hd : frac? t d) (h1 : 0 < t.2) (hg : Nat.gcd t.1 t.2 = 1) (hb : t.2 < big) (hu1 : underO (0, 1) t = some true) (hu2 : underO (1, 1) t = some false) : (Z m).call (Str.ofString "need_trust") [d] = .ok (fD t, []) := by
  obtain ⟨k, rfl, hk⟩ := suc h
  have fz : d.fz = d := by rcases hd with rfl | rfl <;> rfl
  have hv : ∀ L, L = ([some d, none] : Lcs) → argVals [.bor 0] L = some ([d], L) := fun L e => by subst e; show some ([d.fz], _) = _; rw [fz]
  refine call_rt l_need_trust rfl rfl (L' := [some d, none]) ?_
  refine q_asg (cal l_kept_fraction (a_bor rfl a_end) (s_kept hk hd h1 hg hb) (hv := hv _ rfl)) ?_
  refine q_if0 (L1 := [some d, some (fD t)]) (x_orR (rdP (d := .bl false) rfl) (x_orR (x_notR (rdE (h := cal l_is_under (a_val (keepD (d := fD (0, 1)) (by rw [zG]; rfl) rfl) (a_bor rfl a_end)) (s_under (by omega) hu1)))) (rdE (h := cal l_is_under (a_val (keepD (d := fD (1, 1)) (by rw [zG]; rfl) rfl) (a_bor rfl a_end)) (s_under (by omega) hu2))))) ?_
  exact q_ret (x_mv rfl)
theorem s_up (h : 1 ≤ m) {p : F} (hp : 0 < p.2) (hb : p.2 < big) : (Z m).call (Str.ofString "up_from") [fD p] = .ok (nD (upN p), []) := by
  obtain ⟨k, rfl, hk⟩ := suc h
  refine call_rt l_up_from rfl rfl (L' := [some (fD p)]) ?_
  refine q_ret (keepD ?_ rfl)
  refine (pur1 (d := .int ((-(p.1 : Int)).fdiv (p.2 : Int))) ?_).trans ?_
  · exact (pur2 (d := .int (-(p.1 : Int))) (e := nD p.2) ((pur1 (ixF0 rfl)).trans rfl) (ixF1 rfl)).trans (ap_fdiv ⟨by omega, Nat.lt_trans (big_log hb) (by decide)⟩)
  · exact congrArg (fun i => some (D.int i)) (up_int hp)
def boundO (n : Nat) (t : F) (l : Bool) : Option F := if l then timesO t (n, 1) else overO (n, 1) t
theorem bound_ok {n : Nat} {t b : F} {l : Bool} (e : boundO n t l = some b) : 0 < b.2 ∧ b.1 < big ∧ b.2 < big := by
  unfold boundO timesO overO at e
  split at e <;> split at e <;> try (cases e; done)
  all_goals
    obtain ⟨r1, r2, r3, rfl⟩ := rdO_ok e
    exact rd_pos r1 r2 r3
theorem s_day_by (h : 4 ≤ m) {n : Nat} {t b : F} {l : Bool} (e : boundO n t l = some b) : (Z m).call (Str.ofString "day_by") [nD n, fD t, .bl l] = .ok (nD (upN b), []) := by
  obtain ⟨k, rfl, hk⟩ := suc h
  have hb := bound_ok e
  refine call_rt l_day_by rfl rfl (L' := [some (nD n), some (fD t), some (.bl l)]) ?_
  refine q_ret (cal l_up_from (a_val (d := fD b) (L1 := [some (nD n), some (fD t), some (.bl l)]) (x_ife (rdP (d := .bl l) rfl) ?_) a_end) (s_up (by omega) hb.1 hb.2.2))
  cases l with
  | true => exact cal l_times (a_bor rfl (a_val (x_tup (q_cons (keepD (d := nD n) rfl rfl) (q_cons (keepD (d := nD 1) rfl rfl) q_end))) a_end)) (s_times hk e)
  | false => exact cal l_over (a_val (x_tup (q_cons (keepD (d := nD n) rfl rfl) (q_cons (keepD (d := nD 1) rfl rfl) q_end))) (a_bor rfl a_end)) (s_over hk e)
/-- what is asked of trust -/
structure Tr (t : F) : Prop where
  p2 : 0 < t.2
  g : Nat.gcd t.1 t.2 = 1
  b : t.2 < big
  u1 : underO (0, 1) t = some true
  u2 : underO (1, 1) t = some false
theorem s_tday (h : 5 ≤ m) {n s : Nat} {t b : F} {d : D} (hn : 1 ≤ n) (hs : 1 ≤ s) (hd : frac? t d) (ht : Tr t) (e : boundO n t (Nat.ble n s) = some b) : (Z m).call (Str.ofString "trusting_day") [nD n, d, nD s] = .ok (nD (upN b), []) := by
  obtain ⟨k, rfl, hk⟩ := suc h
  have fz : d.fz = d := by rcases hd with rfl | rfl <;> rfl
  have hv : ∀ L, L = ([some (nD n), some d, some (nD s), none] : Lcs) → argVals [.bor 1] L = some ([d], L) := fun L e => by subst e; show some ([d.fz], _) = _; rw [fz]
  refine call_rt l_trusting_day rfl rfl (L' := [some (nD n), some d, some (nD s), some (fD t)]) ?_
  refine q_ex (cal l_need_price (a_bor rfl a_end) (s_need_price (by omega) hn)) ?_
  refine q_asg (cal l_need_trust (a_bor rfl a_end) (s_need_trust (by omega) hd ht.p2 ht.g ht.b ht.u1 ht.u2) (hv := hv _ rfl)) ?_
  refine q_if0 (x_notR (rdE (h := cal l_is_one_up (a_bor rfl a_end) (s_one_up (by omega) hs)))) ?_
  exact q_ret (cal l_day_by (a_bor rfl (a_bor rfl (a_val (keepD (geN (a := s) (b := n) rfl rfl) rfl) a_end))) (s_day_by hk e))
def fracO (n y : Nat) : Option F := if Nat.blt 0 y then rdO (y - 1 + n) (mn y n) else none
theorem s_fraction (h : 3 ≤ m) {n y : Nat} {r : F} (e : fracO n y = some r) : (Z m).call (Str.ofString "fraction_by") [nD n, nD y] = .ok (fD r, []) := by
  obtain ⟨k, rfl, hk⟩ := suc h
  unfold fracO at e
  split at e <;> try (cases e; done)
  rename_i hy
  have hy := Nat.blt_eq.mp hy
  obtain ⟨r1, r2, r3, rfl⟩ := rdO_ok e
  refine call_rt l_fraction_by rfl rfl (L' := [some (nD n), some (nD y)]) ?_
  exact q_ret (cal l_reduced (a_val (keepD (addN (subN (a := y) (b := 1) rfl rfl hy) (b := n) rfl) rfl) (a_val (keepD (minN (a := y) (b := n) rfl rfl) rfl) a_end)) (s_reduced hk r1 r3))
def prog (n : Nat) (t : F) : Option (F × F) := match boundO n t true with
  | none => none
  | some b => if Nat.blt 0 (upN b) then match fracO n (upN b), rdO (upN b - 1 + n) n with
    | some f, some r => if Nat.blt 1 n then match boundO n t false with
        | none => none
        | some b2 => match fracO n (upN b2) with
          | none => none
          | some f2 => match greatestO [f, f2] with | some g => some (r, g) | none => none
      else match greatestO [f] with | some g => some (r, g) | none => none
    | _, _ => none
    else none
theorem s_tfr (h : 5 ≤ m) {n : Nat} {t r g : F} {d : D} (hn : 1 ≤ n) (hd : frac? t d) (ht : Tr t) (e : prog n t = some (r, g)) : (Z m).call (Str.ofString "trusting_fractions") [nD n, d] = .ok (.tup [fD r, fD g], []) := by
  obtain ⟨k, rfl, hk⟩ := suc h
  have fz : d.fz = d := by rcases hd with rfl | rfl <;> rfl
  have hv : ∀ L, L = ([some (nD n), some d, none, none, none] : Lcs) → argVals [.bor 1] L = some ([d], L) := fun L e => by subst e; show some ([d.fz], _) = _; rw [fz]
  unfold prog at e
  split at e
  · cases e
  rename_i b hb
  split at e <;> try (cases e; done)
  rename_i hy
  have hy := Nat.blt_eq.mp hy
  split at e <;> try (cases e; done)
  rename_i f r' hf hr
  obtain ⟨r1, r2, r3, hr4⟩ := rdO_ok hr
  have c1 : ∀ L : Lcs, L[0]? = some (some (nD n)) → L[3]? = some (some (nD (upN b))) → den (Z k) (.call (Str.ofString "reduced") [] (.cons (.p (.o2 .add (.o2 .sub (.var 3) (.int 1)) (.var 0))) (.cons (.p (.var 0)) .nil))) L = .ok (fD r', L) := by
    intro L h0 h3
    subst hr4
    have q0 : pur (Z k).G (.var 0) L = some (nD n) := by simp only [pur, h0]
    have q3 : pur (Z k).G (.var 3) L = some (nD (upN b)) := by simp only [pur, h3]
    exact call2pv (d := nD (upN b - 1 + n)) (e := nD n) (md0 l_reduced rfl) (ar2 l_reduced) (addN (subN (b := 1) q3 rfl hy) q0) h0 rfl rfl rfl rfl (s_reduced (by omega) r1 r3) rfl
  have start : ∀ {d' : D} {L' : Lcs}, runSs (Z k) (.cons (.ifs (.p (.o2 .gt (.var 0) (.int 1)))
 (.cons (.app 4 [] (.call (Str.ofString "fraction_by") [] (.cons (.p (.var 0)) (.cons (.call (Str.ofString "day_by") [] (.cons (.p (.var 0)) (.cons (.p (.var 2)) (.cons (.p (.bl false)) .nil)))) .nil))))
 .nil)
 .nil)
 (.cons (.ret (.tup (.cons (.call (Str.ofString "reduced") [] (.cons (.p (.o2 .add (.o2 .sub (.var 3) (.int 1)) (.var 0))) (.cons (.p (.var 0)) .nil))) (.cons (.call (Str.ofString "greatest") [] (.cons (.p (.var 4)) .nil)) .nil))))
 .nil)) [some (nD n), some d, some (fD t), some (nD (upN b)), some (.lst true [fD f])] = .rt d' L' → runSs (Z k) fn_trusting_fractions.body [some (nD n), some d, none, none, none] = .rt d' L' := by
    intro d' L' hh
    refine q_ex (cal l_need_price (a_bor rfl a_end) (s_need_price (by omega) hn)) ?_
    refine q_asg (cal l_need_trust (a_bor rfl a_end) (s_need_trust (by omega) hd ht.p2 ht.g ht.b ht.u1 ht.u2) (hv := hv _ rfl)) ?_
    refine q_asg (cal l_day_by (a_bor rfl (a_bor rfl (a_val (keepD (d := .bl true) rfl rfl) a_end))) (s_day_by hk hb)) ?_
    exact q_asg (x_lst (q_cons (cal l_fraction_by (a_bor rfl (a_bor rfl a_end)) (s_fraction (by omega) hf)) q_end)) hh
  have hgt : ∀ L : Lcs, L[0]? = some (some (nD n)) → pur (Z k).G (.o2 .gt (.var 0) (.int 1)) L = some (.bl (Nat.blt 1 n)) := fun L h0 => gtN (a := n) (b := 1) (by simp only [pur, h0]) rfl
  by_cases h1 : Nat.blt 1 n = true
  · rw [if_pos h1] at e
    split at e <;> try (cases e; done)
    rename_i b2 hb2
    split at e <;> try (cases e; done)
    rename_i f2 hf2
    split at e <;> try (cases e; done)
    rename_i g' hg
    cases e
    refine call_rt l_trusting_fractions rfl rfl (L' := [some (nD n), some d, some (fD t), some (nD (upN b)), some (.lst true [fD f, fD f2])]) (start ?_)
    have h2 := hgt [some (nD n), some d, some (fD t), some (nD (upN b)), some (.lst true [fD f])] rfl
    rw [h1] at h2
    refine q_ifT (rdP h2) (q_app (xs := [fD f]) (show 1 < 1000000 by decide) rfl (cal l_fraction_by (a_bor rfl (a_val (cal l_day_by (a_bor rfl (a_bor rfl (a_val (keepD (d := .bl false) rfl rfl) a_end))) (s_day_by hk hb2)) a_end)) (s_fraction (by omega) hf2)) rfl q_nil) ?_
    exact q_ret (x_tup (q_cons (c1 _ rfl rfl) (q_cons (cal l_greatest (a_bor rfl a_end) (s_greatest (by omega) hg)) q_end)))
  · have h0 : Nat.blt 1 n = false := Bool.eq_false_iff.mpr h1
    rw [if_neg h1] at e
    split at e <;> try (cases e; done)
    rename_i g' hg
    cases e
    refine call_rt l_trusting_fractions rfl rfl (L' := [some (nD n), some d, some (fD t), some (nD (upN b)), some (.lst true [fD f])]) (start ?_)
    have h2 := hgt [some (nD n), some d, some (fD t), some (nD (upN b)), some (.lst true [fD f])] rfl
    rw [h0] at h2
    refine q_if0 (rdP h2) ?_
    exact q_ret (x_tup (q_cons (c1 _ rfl rfl) (q_cons (cal l_greatest (a_bor rfl a_end) (s_greatest (by omega) hg)) q_end)))
end
end K74

namespace K74
open PySem L2 Q
section
variable {m : Nat}
def buy (n y s : Nat) : Nat := if Nat.blt s y then s else y - 1 + n
theorem s_lbuying (h : 1 ≤ m) {n y s : Nat} (hy : 0 < y) : (Z m).call (Str.ofString "_law_buying") [nD n, nD y, nD s] = .ok (nD (buy n y s), []) := by
  obtain ⟨k, rfl, hk⟩ := suc h
  refine call_rt l_lbuying rfl rfl (L' := [some (nD n), some (nD y), some (nD s)]) ?_
  refine q_ret (x_ife (rdP (ltNb (a := s) (b := y) rfl rfl)) ?_)
  unfold buy
  cases hb : Nat.blt s y with
  | true => exact keepD rfl rfl
  | false => exact keepD (addN (subN (a := y) (b := 1) rfl rfl hy) (b := n) rfl) rfl
theorem s_lday (h : 3 ≤ m) {n s : Nat} {t b : F} (e : boundO n t (Nat.ble n s) = some b) : (Z m).call (Str.ofString "_law_day") [nD n, fD t, nD s] = .ok (nD (upN b), []) := by
  obtain ⟨k, rfl, hk⟩ := suc h
  have hb := bound_ok e
  refine call_rt l_lday rfl rfl (L' := [some (nD n), some (fD t), some (nD s), some (fD b), some (nD (b.1 / b.2))]) ?_
  refine q_asg (d := fD b) (L1 := [some (nD n), some (fD t), some (nD s), none, none]) (x_ife (rdP (geN (a := s) (b := n) rfl rfl)) ?_) ?_
  · generalize Nat.ble n s = l at e
    cases l with
    | true => exact cal l_ltimes (a_bor rfl (a_val (x_tup (q_cons (keepD (d := nD n) rfl rfl) (q_cons (keepD (d := nD 1) rfl rfl) q_end))) a_end)) (s_ltimes hk e)
    | false => exact cal l_lover (a_val (x_tup (q_cons (keepD (d := nD n) rfl rfl) (q_cons (keepD (d := nD 1) rfl rfl) q_end))) (a_bor rfl a_end)) (s_lover hk e)
  · have e1 : pur (Z k).G (.o2 .fdiv (.o2 .ix (.var 3) (.int 0)) (.o2 .ix (.var 3) (.int 1))) [some (nD n), some (fD t), some (nD s), some (fD b), none] = some (nD (b.1 / b.2)) := by
      refine (pur2 (d := nD b.1) (e := nD b.2) (ixF0 rfl) (ixF1 rfl)).trans ((ap_fdiv ⟨by omega, Nat.lt_trans (big_log hb.2.2) (by decide)⟩).trans ?_)
      rw [fdiv_nat]
    refine q_asg (keepD e1 rfl) ?_
    have hq : b.1 / b.2 < big := Nat.lt_of_le_of_lt (Nat.div_le_self _ _) hb.2.1
    have e2 : pur (Z k).G (.o2 .eq (.o2 .mul (.var 4) (.o2 .ix (.var 3) (.int 1))) (.o2 .ix (.var 3) (.int 0))) [some (nD n), some (fD t), some (nD s), some (fD b), some (nD (b.1 / b.2))] = some (.bl (decide (b.1 / b.2 * b.2 = b.1))) :=
      eqN (mulN (a := b.1 / b.2) rfl (ixF1 rfl) hq hb.2.2) (ixF0 rfl)
    refine q_ret (L1 := [some (nD n), some (fD t), some (nD s), some (fD b), some (nD (b.1 / b.2))]) (x_ife (rdP e2) ?_)
    unfold upN
    by_cases hc : b.1 / b.2 * b.2 = b.1
    · rw [if_pos hc, decide_eq_true hc]
      exact keepD rfl rfl
    · rw [if_neg hc, decide_eq_false hc]
      exact keepD (addN (a := b.1 / b.2) (b := 1) rfl rfl) rfl
def astep (n y i : Nat) : Option F := if Nat.blt 0 y then rdO (buy n y (i + 1)) (mn n (i + 1)) else none
def rstep (n : Nat) (t : F) (i : Nat) : Option F := match boundO n t (Nat.ble n (i + 1)) with
  | some b => astep n (upN b) i
  | none => none
def anyOf (n : Nat) (t : F) (s : Nat) : Option (List F) := match boundO n t (Nat.ble n s) with
  | some b => mapO (astep n (upN b)) (List.range (mx (upN b) n + 1))
  | none => none
def saids (n : Nat) : List Nat := if Nat.blt 1 n then [n, 1] else [n]
def due (n : Nat) (t : F) : Option (F × F) := match mapO (rstep n t) (List.range (4 * n + 1)), mapO (anyOf n t) (saids n) with
  | some xs, some ys => match lgreatestO xs, lgreatestO ys.flatten with
    | some a, some b => some (a, b)
    | _, _ => none
  | _, _ => none
theorem s_astep {k : Nat} (h : 2 ≤ k) {n y i : Nat} {f : F} (e : astep n y i = some f) : (Z k).call (Str.ofString "_law_frac") [nD (buy n y (i + 1)), nD (mn n (i + 1))] = .ok (fD f, []) ∧ 0 < y := by
  unfold astep at e
  split at e <;> try (cases e; done)
  rename_i hy
  exact ⟨s_frac (by omega) e, Nat.blt_eq.mp hy⟩
theorem src_saids {k : Nat} {n : Nat} {o1 o2 o3 o4 o5 o6 : Option D} : src (Z k) (.e (.cat (.lst (.cons (.p (.var 0)) .nil)) (.ife (.p (.o2 .gt (.var 0) (.int 1))) (.lst (.cons (.p (.int 1)) .nil)) (.lst .nil)))) [some (nD n), o1, o2, o3, o4, o5, o6] = .ok ((saids n).map nD, [some (nD n), o1, o2, o3, o4, o5, o6]) := by
  have e1 : den (Z k) (.lst (.cons (.p (.var 0)) .nil)) [some (nD n), o1, o2, o3, o4, o5, o6] = .ok (.lst true [nD n], [some (nD n), o1, o2, o3, o4, o5, o6]) := x_lst (q_cons (keepD rfl rfl) q_end)
  have e2 : den (Z k) (.ife (.p (.o2 .gt (.var 0) (.int 1))) (.lst (.cons (.p (.int 1)) .nil)) (.lst .nil)) [some (nD n), o1, o2, o3, o4, o5, o6] = .ok (.lst true (if Nat.blt 1 n then [nD 1] else []), [some (nD n), o1, o2, o3, o4, o5, o6]) := by
    refine x_ife (rdP (gtN (a := n) (b := 1) rfl rfl)) ?_
    cases Nat.blt 1 n with
    | true => exact x_lst (q_cons (keepD rfl rfl) q_end)
    | false => exact x_lst q_end
  rw [src_e, den_cat, e1]
  simp only [Res.bind]
  rw [e2]
  unfold saids
  cases Nat.blt 1 n <;> rfl
theorem s_lboth (h : 4 ≤ m) {n : Nat} {t a b : F} (hn : n ≤ 1000) (hy9 : ∀ l c, boundO n t l = some c → upN c ≤ 100000) (e : due n t = some (a, b)) : (Z m).call (Str.ofString "_law_both") [nD n, fD t] = .ok (.tup [fD a, fD b], []) := by
  obtain ⟨k, rfl, hk⟩ := suc h
  unfold due at e
  split at e <;> try (cases e; done)
  rename_i xs ys hxs hys
  split at e <;> try (cases e; done)
  rename_i a' b' ha hb
  cases e
  obtain ⟨x1, x2⟩ := mapO_ok (0, 0) hxs
  obtain ⟨y1, y2⟩ := mapO_ok [] hys
  let f := fun i => (rstep n t i).getD (0, 0)
  let g := fun s => (anyOf n t s).getD []
  have glen : ∀ s ∈ saids n, (g s).length ≤ 200000 := by
    intro s hs
    have h2 : anyOf n t s = some (g s) := y2 s hs
    unfold anyOf at h2
    split at h2 <;> try (cases h2; done)
    rename_i c hc
    have := (mapO_ok (0, 0) h2).1
    rw [this, List.length_map, List.length_range]
    have := hy9 _ _ hc
    unfold mx
    split <;> omega
  -- the first loop
  obtain ⟨L1, e1, o1, e2⟩ := forRun_foldM (tg := .nm 2) (body := fun L => runSs (Z k) (.cons (.app 4 [] (.call (Str.ofString "_law_frac") [] (.cons (.call (Str.ofString "_law_buying") [] (.cons (.p (.var 0)) (.cons (.call (Str.ofString "_law_day") [] (.cons (.p (.var 0)) (.cons (.p (.var 1)) (.cons (.p (.var 2)) .nil)))) (.cons (.p (.var 2)) .nil)))) (.cons (.p (.o2 .min (.var 0) (.var 2))) .nil)))) .nil) L) (fun i => nD (i + 1)) (apS1 f) (fun acc L => ∃ o, L = [some (nD n), some (fD t), o, none, some (.lst true (acc.map fD)), some (.lst true []), none]) (List.range (4 * n + 1)) [] xs [some (nD n), some (fD t), none, none, some (.lst true []), some (.lst true []), none] ⟨none, rfl⟩ (by rw [foldlM_app f _ _ (by rw [List.length_range, List.length_nil]; omega)]; rw [x1]; rfl) (by
    rintro i hi acc acc' _ ⟨o, rfl⟩ ea
    unfold apS1 at ea
    split at ea <;> try (cases ea; done)
    rename_i hl
    cases ea
    refine ⟨[some (nD n), some (fD t), some (nD (i + 1)), none, some (.lst true (acc.map fD)), some (.lst true []), none], [some (nD n), some (fD t), some (nD (i + 1)), none, some (.lst true (acc.map fD ++ [fD (f i)])), some (.lst true []), none], rfl, ?_, ⟨some (nD (i + 1)), by rw [List.map_append]; rfl⟩⟩
    have h2 : rstep n t i = some (f i) := x2 i hi
    unfold rstep at h2
    split at h2 <;> try (cases h2; done)
    rename_i c hc
    have h3 := s_astep (k := k) (by omega) h2
    exact q_app (by rw [List.length_map]; exact hl) rfl (cal l_frac (a_val (cal l_lbuying (a_bor rfl (a_val (cal l_lday (a_bor rfl (a_bor rfl (a_bor rfl a_end))) (s_lday hk hc)) (a_bor rfl a_end))) (s_lbuying (by omega) h3.2)) (a_val (keepD (minN (a := n) (b := i + 1) rfl rfl) rfl) a_end)) h3.1) rfl q_nil)
  subst e2
  -- the second
  obtain ⟨L2, e3, o2, o3, o6, e4⟩ := forRun_foldM (tg := .nm 3) (body := fun L => runSs (Z k) (.cons (.asg (.nm 6) (.call (Str.ofString "_law_day") [] (.cons (.p (.var 0)) (.cons (.p (.var 1)) (.cons (.p (.var 3)) .nil)))))
 (.cons (.ext 5 (.lc [2] (.nm 2) (.rng (.cons (.p (.int 1)) (.cons (.p (.o2 .add (.o2 .max (.var 6) (.var 0)) (.int 2))) .nil))) .nil (.call (Str.ofString "_law_frac") [] (.cons (.call (Str.ofString "_law_buying") [] (.cons (.p (.var 0)) (.cons (.p (.var 6)) (.cons (.p (.var 2)) .nil)))) (.cons (.p (.o2 .min (.var 0) (.var 2))) .nil)))))
 .nil)) L) nD (apSs g) (fun acc L => ∃ o2 o3 o6, L = [some (nD n), some (fD t), o2, o3, some (.lst true (xs.map fD)), some (.lst true (acc.map fD)), o6]) (saids n) [] ys.flatten [some (nD n), some (fD t), o1, none, some (.lst true (xs.map fD)), some (.lst true []), none] ⟨_, _, _, rfl⟩ (by
      have hfl : ys.flatten = (saids n).flatMap g := by rw [y1, List.flatMap_def]
      have hlen : ((saids n).flatMap g).length ≤ 400000 := by
        have hs := glen
        revert hs
        unfold saids
        split
        · intro hs
          have h1 := hs n (by simp)
          have h2 := hs 1 (by simp)
          simp only [List.flatMap_cons, List.flatMap_nil, List.append_nil, List.length_append]
          omega
        · intro hs
          have h1 := hs n (by simp)
          simp only [List.flatMap_cons, List.flatMap_nil, List.append_nil]
          omega
      rw [hfl, foldlM_apps g _ _ (by rw [List.length_nil]; omega)]
      rfl) (by
    rintro s hs acc acc' _ ⟨o2, o3, o6, rfl⟩ ea
    unfold apSs at ea
    split at ea <;> try (cases ea; done)
    rename_i hl
    cases ea
    have h2 : anyOf n t s = some (g s) := y2 s hs
    unfold anyOf at h2
    split at h2 <;> try (cases h2; done)
    rename_i c hc
    obtain ⟨z1, z2⟩ := mapO_ok (0, 0) h2
    refine ⟨[some (nD n), some (fD t), o2, some (nD s), some (.lst true (xs.map fD)), some (.lst true (acc.map fD)), o6], [some (nD n), some (fD t), Q.was [some (nD n), some (fD t), o2, some (nD s), some (.lst true (xs.map fD)), some (.lst true (acc.map fD)), some (nD (upN c))] 2, some (nD s), some (.lst true (xs.map fD)), some (.lst true ((acc ++ g s).map fD)), some (nD (upN c))], rfl, ?_, ⟨_, _, _, rfl⟩⟩
    refine q_asg (cal l_lday (a_bor rfl (a_bor rfl (a_bor rfl a_end))) (s_lday hk hc)) ?_
    have hu := hy9 _ _ hc
    have hlc := lc_pure (V := Z k) (L := [some (nD n), some (fD t), o2, some (nD s), some (.lst true (xs.map fD)), some (.lst true (acc.map fD)), some (nD (upN c))]) (vs := [2]) (tg := .nm 2) (s := .rng (.cons (.p (.int 1)) (.cons (.p (.o2 .add (.o2 .max (.var 6) (.var 0)) (.int 2))) .nil))) (cs := .nil) (e := .call (Str.ofString "_law_frac") [] (.cons (.call (Str.ofString "_law_buying") [] (.cons (.p (.var 0)) (.cons (.p (.var 6)) (.cons (.p (.var 2)) .nil)))) (.cons (.p (.o2 .min (.var 0) (.var 2))) .nil))) (fun i => nD (i + 1)) (fun _ => true) (fun i => fD ((astep n (upN c) i).getD (0, 0))) (List.range (mx (upN c) n + 1)) (src_rngN (n := mx (upN c) n + 1) (addN (maxN (a := upN c) (b := n) rfl rfl) (b := 2) rfl) (by unfold mx; split <;> omega)) (fun i hi => ⟨[some (nD n), some (fD t), some (nD (i + 1)), some (nD s), some (.lst true (xs.map fD)), some (.lst true (acc.map fD)), some (nD (upN c))], rfl, rfl, conds_nil _ _, fun _ => by
        have h3 := s_astep (k := k) (by omega) (z2 i hi)
        exact cal l_frac (a_val (cal l_lbuying (a_bor rfl (a_bor rfl (a_bor rfl a_end))) (s_lbuying (by omega) h3.2)) (a_val (keepD (minN (a := n) (b := i + 1) rfl rfl) rfl) a_end)) h3.1⟩)
    have hg : ((List.range (mx (upN c) n + 1)).filter (fun _ => true)).map (fun i => fD ((astep n (upN c) i).getD (0, 0))) = (g s).map fD := by
      rw [List.filter_eq_self.mpr fun _ _ => rfl, z1, List.map_map]; rfl
    rw [hg] at hlc
    refine (q_ext (xs := acc.map fD) (ys := (g s).map fD) (by rw [List.length_map, List.length_map]; exact hl) rfl hlc rfl q_nil).trans ?_
    rw [← List.map_append]
    rfl)
  subst e4
  refine call_rt l_lboth rfl rfl (L' := [some (nD n), some (fD t), o2, o3, some (.lst true (xs.map fD)), some (.lst true (ys.flatten.map fD)), o6]) ?_
  refine q_par (ds := [.lst true [], .lst true []]) (q_cons (x_lst q_end) (q_cons (x_lst q_end) q_end)) rfl ?_
  refine q_for (src_rngN (n := 4 * n + 1) (addN (mulN (a := 4) (b := n) rfl rfl (by decide) (Nat.lt_of_le_of_lt hn (by decide))) (b := 2) rfl) (by omega)) e1 ?_
  refine q_for src_saids e3 ?_
  refine q_ret (x_tup (q_cons (L1 := [some (nD n), some (fD t), o2, o3, some (.lst true (xs.map fD)), some (.lst true (ys.flatten.map fD)), o6]) ?_ (q_cons (L1 := [some (nD n), some (fD t), o2, o3, some (.lst true (xs.map fD)), some (.lst true (ys.flatten.map fD)), o6]) ?_ q_end)))
  · exact call1b (md0 l_lgreatest rfl) (ar2 l_lgreatest) rfl (by rw [lst_fD]; exact s_lgreatest (by omega) ha) rfl
  · exact call1b (md0 l_lgreatest rfl) (ar2 l_lgreatest) rfl (by rw [lst_fD]; exact s_lgreatest (by omega) hb) rfl
end
end K74

namespace K74
open PySem L2 Q
def upLow (n : Nat) (t : F) (l : Bool) : Bool := match boundO n t l with | some c => Nat.ble (upN c) 100000 | none => true
def endOk (t : F) (d : F × F) : Bool := match plusO (1, 1) t, overO (1, 1) t with
  | some p, some q => match underO p d.1, plusO (1, 1) q with
    | some false, some w => match underO w d.2 with | some false => true | _ => false
    | _, _ => false
  | _, _ => false
def chk (n : Nat) (t : F) : Bool := upLow n t true && upLow n t false && match due n t, prog n t with
  | some d, some e => decide (d = e) && endOk t d
  | _, _ => false
def trOk (t : F) : Bool := Nat.blt 0 t.2 && Nat.beq (Nat.gcd t.1 t.2) 1 && Nat.blt t.2 big && decide (underO (0, 1) t = some true) && decide (underO (1, 1) t = some false)
def ts : List F := [(1, 1), (1, 2), (1, 3), (1, 4), (1, 5), (1, 6), (1, 7), (1, 8), (1, 9), (1, 10), (2, 3), (2, 5), (2, 7), (2, 9), (3, 4), (3, 5), (3, 7), (3, 8), (3, 10), (4, 5), (4, 7), (4, 9), (5, 6), (5, 7), (5, 8), (5, 9), (6, 7), (7, 8), (7, 9), (7, 10), (8, 9), (9, 10)]
theorem ts_tr : ∀ t ∈ ts, trOk t = true := by decide +kernel
theorem ts_all : ∀ b, b < 10 → ∀ a, a < b + 1 → rdO (a + 1) (b + 1) = some (rd (a + 1) (b + 1)) ∧ rd (a + 1) (b + 1) ∈ ts := by decide +kernel
theorem ck1 : ts.all (chk 1) = true := by decide +kernel
theorem ck2 : ts.all (chk 2) = true := by decide +kernel
theorem ck3 : ts.all (chk 3) = true := by decide +kernel
theorem ck4 : ts.all (chk 4) = true := by decide +kernel
theorem ck5 : ts.all (chk 5) = true := by decide +kernel
theorem ck6 : ts.all (chk 6) = true := by decide +kernel
theorem ck7 : ts.all (chk 7) = true := by decide +kernel
theorem ck8 : ts.all (chk 8) = true := by decide +kernel
theorem ck9 : ts.all (chk 9) = true := by decide +kernel
theorem ck10 : ts.all (chk 10) = true := by decide +kernel
theorem ck11 : ts.all (chk 11) = true := by decide +kernel
theorem ck12 : ts.all (chk 12) = true := by decide +kernel
theorem ck13 : ts.all (chk 13) = true := by decide +kernel
theorem ck14 : ts.all (chk 14) = true := by decide +kernel
theorem ck15 : ts.all (chk 15) = true := by decide +kernel
theorem ck16 : ts.all (chk 16) = true := by decide +kernel
theorem ck17 : ts.all (chk 17) = true := by decide +kernel
theorem ck18 : ts.all (chk 18) = true := by decide +kernel
theorem ck19 : ts.all (chk 19) = true := by decide +kernel
theorem ck20 : ts.all (chk 20) = true := by decide +kernel
theorem ck21 : ts.all (chk 21) = true := by decide +kernel
theorem ck22 : ts.all (chk 22) = true := by decide +kernel
theorem ck23 : ts.all (chk 23) = true := by decide +kernel
theorem ck24 : ts.all (chk 24) = true := by decide +kernel
theorem ck25 : ts.all (chk 25) = true := by decide +kernel
theorem ck26 : ts.all (chk 26) = true := by decide +kernel
theorem ck27 : ts.all (chk 27) = true := by decide +kernel
theorem ck28 : ts.all (chk 28) = true := by decide +kernel
theorem ck29 : ts.all (chk 29) = true := by decide +kernel
theorem ck30 : ts.all (chk 30) = true := by decide +kernel
theorem ck31 : ts.all (chk 31) = true := by decide +kernel
theorem ck32 : ts.all (chk 32) = true := by decide +kernel
theorem ck33 : ts.all (chk 33) = true := by decide +kernel
theorem ck34 : ts.all (chk 34) = true := by decide +kernel
theorem ck35 : ts.all (chk 35) = true := by decide +kernel
theorem ck36 : ts.all (chk 36) = true := by decide +kernel
theorem ck37 : ts.all (chk 37) = true := by decide +kernel
theorem ck38 : ts.all (chk 38) = true := by decide +kernel
theorem ck39 : ts.all (chk 39) = true := by decide +kernel
theorem ck40 : ts.all (chk 40) = true := by decide +kernel
theorem ck : ∀ n, 1 ≤ n → n ≤ 40 → ts.all (chk n) = true := fun n h1 h2 => match n, h1, h2 with
  | 1, _, _ => ck1
  | 2, _, _ => ck2
  | 3, _, _ => ck3
  | 4, _, _ => ck4
  | 5, _, _ => ck5
  | 6, _, _ => ck6
  | 7, _, _ => ck7
  | 8, _, _ => ck8
  | 9, _, _ => ck9
  | 10, _, _ => ck10
  | 11, _, _ => ck11
  | 12, _, _ => ck12
  | 13, _, _ => ck13
  | 14, _, _ => ck14
  | 15, _, _ => ck15
  | 16, _, _ => ck16
  | 17, _, _ => ck17
  | 18, _, _ => ck18
  | 19, _, _ => ck19
  | 20, _, _ => ck20
  | 21, _, _ => ck21
  | 22, _, _ => ck22
  | 23, _, _ => ck23
  | 24, _, _ => ck24
  | 25, _, _ => ck25
  | 26, _, _ => ck26
  | 27, _, _ => ck27
  | 28, _, _ => ck28
  | 29, _, _ => ck29
  | 30, _, _ => ck30
  | 31, _, _ => ck31
  | 32, _, _ => ck32
  | 33, _, _ => ck33
  | 34, _, _ => ck34
  | 35, _, _ => ck35
  | 36, _, _ => ck36
  | 37, _, _ => ck37
  | 38, _, _ => ck38
  | 39, _, _ => ck39
  | 40, _, _ => ck40
  | 0, h, _ => absurd h (by decide)
  | n + 41, _, h => absurd h (by omega)
theorem tr_ok {t : F} (h : t ∈ ts) : Tr t := by
  have := ts_tr t h
  simp only [trOk, Bool.and_eq_true, decide_eq_true_eq] at this
  obtain ⟨⟨⟨⟨h1, h2⟩, h3⟩, h4⟩, h5⟩ := this
  exact ⟨Nat.blt_eq.mp h1, Nat.eq_of_beq_eq_true h2, Nat.blt_eq.mp h3, h4, h5⟩
theorem chk_ok {n : Nat} {t : F} (h1 : 1 ≤ n) (h2 : n ≤ 40) (ht : t ∈ ts) : ∃ a b, (∀ l c, boundO n t l = some c → upN c ≤ 100000) ∧ due n t = some (a, b) ∧ prog n t = some (a, b) ∧ ∃ p q w, plusO (1, 1) t = some p ∧ overO (1, 1) t = some q ∧ plusO (1, 1) q = some w ∧ underO p a = some false ∧ underO w b = some false := by
  have h := List.all_eq_true.mp (ck n h1 h2) t ht
  unfold chk at h
  simp only [Bool.and_eq_true] at h
  obtain ⟨⟨h3, h4⟩, h5⟩ := h
  split at h5 <;> try (cases h5; done)
  rename_i d e hd he
  simp only [Bool.and_eq_true, decide_eq_true_eq] at h5
  obtain ⟨rfl, h6⟩ := h5
  obtain ⟨a, b⟩ := d
  refine ⟨a, b, ?_, hd, he, ?_⟩
  · intro l c hc
    cases l with
    | true => unfold upLow at h3; rw [hc] at h3; exact Nat.le_of_ble_eq_true h3
    | false => unfold upLow at h4; rw [hc] at h4; exact Nat.le_of_ble_eq_true h4
  · unfold endOk at h6
    split at h6 <;> try (cases h6; done)
    rename_i p q hp hq
    split at h6 <;> try (cases h6; done)
    rename_i w hu hw
    split at h6 <;> try (cases h6; done)
    rename_i hu2
    exact ⟨p, q, w, hp, hq, hw, hu, hu2⟩
theorem prog_day {n : Nat} {t : F} {x : F × F} (h : prog n t = some x) {s : Nat} (hs : 1 ≤ s) : ∃ c, boundO n t (Nat.ble n s) = some c := by
  unfold prog at h
  split at h
  · cases h
  rename_i b hb
  cases hle : Nat.ble n s with
  | true => exact ⟨b, hb⟩
  | false =>
    have h1 : Nat.blt 1 n = true := by
      refine Nat.blt_eq.mpr ?_
      have := mt Nat.ble_eq.mpr (Bool.eq_false_iff.mp hle)
      omega
    split at h <;> try (cases h; done)
    split at h <;> try (cases h; done)
    split at h <;> try (cases h; done)
    rename_i b2 hb2
    exact ⟨b2, hb2⟩
end K74

namespace K74
open PySem L2 Q
section
variable {k : Nat}
def turnSs : Ss := match fn_law.body with
  | .cons _ (.cons (.for_ _ _ b) _) => b
  | _ => .nil
theorem turn_ok (h : 6 ≤ k) {S0 S : D} {n0 : Nat} {o2 o3 o4 o5 o6 o7 : Option D} (s : StOk S n0) (hn0 : n0 < 900) :
    ∃ S' x3 x4 x5 x6 x7, StOk S' (n0 + 4) ∧ runSs (Z k) turnSs [some S0, some S, o2, o3, o4, o5, o6, o7] = .nx [some S0, some S', o2, x3, x4, x5, x6, x7] := by
  obtain ⟨S1, j1, t1, hj1, c1⟩ := st_draw (m := k) (by omega) s (by omega) (M := 40) (by decide)
  obtain ⟨S2, j2, t2, hj2, c2⟩ := st_draw (m := k) (by omega) t1 (by omega) (M := 10) (by decide)
  obtain ⟨S3, j3, t3, hj3, c3⟩ := st_draw (m := k) (by omega) t2 (by omega) (M := j2 + 1) (by omega)
  obtain ⟨S4, j4, t4, hj4, c4⟩ := st_draw (m := k) (by omega) t3 (by omega) (M := 200) (by decide)
  have d1 : den (Z k) (.call (Str.ofString "_law_draw") [] (.cons (.p (.var 1)) (.cons (.p (.int 40)) .nil))) [some S0, some S, o2, o3, o4, o5, o6, o7] = .ok (nD j1, [some S0, some S1, o2, o3, o4, o5, o6, o7]) :=
    den_draw (a2 := .val (nD 40)) mdD (ar2 l_draw) rfl (arg_val rfl rfl (keepD rfl rfl) (args_nil _ _ _)) rfl rfl c1 t1.sh rfl
  have d2 : den (Z k) (.call (Str.ofString "_law_draw") [] (.cons (.p (.var 1)) (.cons (.p (.int 10)) .nil))) [some S0, some S1, o2, o3, o4, o5, o6, o7] = .ok (nD j2, [some S0, some S2, o2, o3, o4, o5, o6, o7]) :=
    den_draw (a2 := .val (nD 10)) mdD (ar2 l_draw) rfl (arg_val rfl rfl (keepD rfl rfl) (args_nil _ _ _)) rfl rfl c2 t2.sh rfl
  obtain ⟨hm, ht⟩ := ts_all j2 hj2 j3 hj3
  obtain ⟨t, et⟩ : ∃ t, t = rd (j3 + 1) (j2 + 1) := ⟨_, rfl⟩
  rw [← et] at hm ht
  obtain ⟨n, en⟩ : ∃ n, n = j1 + 1 := ⟨_, rfl⟩
  obtain ⟨sd, es⟩ : ∃ sd, sd = j4 + 1 := ⟨_, rfl⟩
  obtain ⟨a, b, w1, w2, w3, p, q, w, w4, w5, w6, w7, w8⟩ := chk_ok (n := n) (t := t) (by omega) (by omega) ht
  obtain ⟨c, hc⟩ := prog_day w3 (s := sd) (by omega)
  have tr := tr_ok ht
  have d3 : den (Z k) (.call (Str.ofString "_law_draw") [] (.cons (.p (.var 1)) (.cons (.p (.var 5)) .nil))) [some S0, some S2, o2, o3, some (nD (j1 + 1)), some (nD (j2 + 1)), o6, o7] = .ok (nD j3, [some S0, some S3, o2, o3, some (nD (j1 + 1)), some (nD (j2 + 1)), o6, o7]) :=
    den_draw (a2 := .bor 5) mdD (ar2 l_draw) rfl (arg_bor (d := nD (j2 + 1)) rfl rfl (args_nil _ _ _)) rfl rfl c3 t3.sh rfl
  have d4 : den (Z k) (.call (Str.ofString "_law_draw") [] (.cons (.p (.var 1)) (.cons (.p (.int 200)) .nil))) [some S0, some S3, o2, o3, some (nD (j1 + 1)), some (nD (j2 + 1)), o6, o7] = .ok (nD j4, [some S0, some S4, o2, o3, some (nD (j1 + 1)), some (nD (j2 + 1)), o6, o7]) :=
    den_draw (a2 := .val (nD 200)) mdD (ar2 l_draw) rfl (arg_val rfl rfl (keepD rfl rfl) (args_nil _ _ _)) rfl rfl c4 t4.sh rfl
  refine ⟨S4, some (.tup [fD a, fD b]), some (nD n), some (nD (j2 + 1)), some (fD t), some (nD sd), t4, ?_⟩
  subst en
  subst es
  have y1 := fun (d : D) (hd : frac? t d) => s_tday (m := k) (by omega) (by omega) (by omega) hd tr hc
  have y2 := fun (d : D) (hd : frac? t d) => s_tfr (m := k) (by omega) (by omega) hd tr w3
  refine q_par (ds := [nD (j1 + 1), nD (j2 + 1)]) (q_cons (x_o2 (keepD (d := .int 1) rfl rfl) (rdE (h := d1)) add1) (q_cons (x_o2 (keepD (d := .int 1) rfl rfl) (rdE (h := d2)) add1) q_end)) rfl ?_
  refine q_par (L1 := [some S0, some S4, o2, o3, some (nD (j1 + 1)), some (nD (j2 + 1)), o6, o7]) (ds := [fD t, nD (j4 + 1)]) (q_cons (cal l_frac (a_val (x_o2 (keepD (d := .int 1) rfl rfl) (rdE (h := d3)) add1) (a_bor rfl a_end)) (s_frac (by omega) hm)) (q_cons (x_o2 (keepD (d := .int 1) rfl rfl) (rdE (h := d4)) add1) q_end)) rfl ?_
  refine q_asg (cal l_lday (a_bor rfl (a_bor rfl (a_bor rfl a_end))) (s_lday (by omega) hc)) ?_
  refine q_if0 (L1 := [some S0, some S4, o2, some (nD (upN c)), some (nD (j1 + 1)), some (nD (j2 + 1)), some (fD t), some (nD (j4 + 1))]) (notSame (a1 := .val (.lst true [nD (upN c), nD (upN c)])) (a2 := .val (.lst true [nD (upN c), nD (upN c)])) (d1 := .lst false [nD (upN c), nD (upN c)]) (d2 := .lst false [nD (upN c), nD (upN c)]) (md0 l_same rfl) (ar2 l_same) (arg_val rfl rfl (lst2 (cal l_trusting_day (a_bor rfl (a_val (x_sqList (d := fD t) rfl rfl rfl) (a_bor rfl a_end))) (y1 _ (.inr rfl))) (calK [2, 1, 0] l_trusting_day (a_bor rfl (a_bor rfl (a_bor rfl a_end))) (y1 _ (.inl rfl)))) (arg_val rfl rfl (lst2 (keepD rfl rfl) (keepD rfl rfl)) (args_nil _ _ _))) rfl rfl rfl (s_same (kk := 2) (by omega) rfl rfl rfl rfl (smL2 (by simp [sm]) (by simp [sm])))) ?_
  refine q_asg (cal l_lboth (a_bor rfl (a_bor rfl a_end)) (s_lboth (by omega) (by omega) w1 w2)) ?_
  refine q_if0 (L1 := [some S0, some S4, o2, some (.tup [fD a, fD b]), some (nD (j1 + 1)), some (nD (j2 + 1)), some (fD t), some (nD (j4 + 1))]) (notSame (a1 := .val (.lst true [.tup [fD a, fD b], .tup [fD a, fD b]])) (a2 := .val (.lst true [.tup [fD a, fD b], .tup [fD a, fD b]])) (d1 := .lst false [.tup [fD a, fD b], .tup [fD a, fD b]]) (d2 := .lst false [.tup [fD a, fD b], .tup [fD a, fD b]]) (md0 l_same rfl) (ar2 l_same) (arg_val rfl rfl (lst2 (cal l_trusting_fractions (a_bor rfl (a_bor rfl a_end)) (y2 _ (.inl rfl))) (calK [1, 0] l_trusting_fractions (a_val (x_sqList (d := fD t) rfl rfl rfl) (a_bor rfl a_end)) (y2 _ (.inr rfl)))) (arg_val rfl rfl (lst2 (keepD rfl rfl) (keepD rfl rfl)) (args_nil _ _ _))) rfl rfl rfl (s_same (kk := 4) (by omega) rfl rfl rfl rfl (smL2 (by simp [sm]) (by simp [sm])))) ?_
  refine q_if0 (L1 := [some S0, some S4, o2, some (.tup [fD a, fD b]), some (nD (j1 + 1)), some (nD (j2 + 1)), some (fD t), some (nD (j4 + 1))]) (x_orR (rdE (h := cal l_lunder (a_val (cal l_lplus (a_val (x_tup (q_cons (keepD (d := nD 1) rfl rfl) (q_cons (keepD (d := nD 1) rfl rfl) q_end))) (a_bor rfl a_end)) (s_lplus (by omega) w4)) (a_val (keepD (d := fD a) rfl rfl) a_end)) (s_lunder (by omega) w7))) (rdE (h := cal l_lunder (a_val (cal l_lplus (a_val (x_tup (q_cons (keepD (d := nD 1) rfl rfl) (q_cons (keepD (d := nD 1) rfl rfl) q_end))) (a_val (cal l_lover (a_val (x_tup (q_cons (keepD (d := nD 1) rfl rfl) (q_cons (keepD (d := nD 1) rfl rfl) q_end))) (a_bor rfl a_end)) (s_lover (by omega) w5)) a_end)) (s_lplus (by omega) w6)) (a_val (keepD (d := fD b) rfl rfl) a_end)) (s_lunder (by omega) w8)))) q_nil
def stepC (c : Nat) (_ : Nat) : Option Nat := if c < 800 then some (c + 4) else none
theorem law_plain (h : 6 ≤ k) (ns : List Int) (hn : ns.length ≤ 63) : (Z (k + 1)).call (Str.ofString "law") [.frz (ns.map D.int)] = .ok (.bl true, []) := by
  obtain ⟨S0, hS0⟩ : ∃ S0, S0 = D.frz (ns.map D.int) := ⟨_, rfl⟩
  obtain ⟨L', e1, S, x2, x3, x4, x5, x6, x7, e2, _⟩ := forRun_foldM (tg := .nm 2) (body := fun L => runSs (Z k) turnSs L) nD stepC (fun c L => ∃ S x2 x3 x4 x5 x6 x7, L = [some S0, some S, x2, x3, x4, x5, x6, x7] ∧ StOk S c) (List.range 5) 0 20 [some S0, some (strD ns 0 0 17), none, none, none, none, none, none] ⟨_, _, _, _, _, _, _, rfl, ⟨ns, 0, 0, 17, rfl, hn, by decide, by decide, by decide⟩⟩ (by decide) (by
    rintro x _ c c' _ ⟨S, x2, x3, x4, x5, x6, x7, rfl, st⟩ ec
    unfold stepC at ec
    split at ec <;> simp only [Option.some.injEq, reduceCtorEq] at ec
    rename_i hc
    subst ec
    obtain ⟨S', y3, y4, y5, y6, y7, st', e⟩ := turn_ok (k := k) h (S0 := S0) (S := S) (n0 := c) (o2 := some (nD x)) (o3 := x3) (o4 := x4) (o5 := x5) (o6 := x6) (o7 := x7) st (by omega)
    exact ⟨[some S0, some S, some (nD x), x3, x4, x5, x6, x7], _, rfl, e, S', some (nD x), y3, y4, y5, y6, y7, rfl, st'⟩)
  subst e2
  obtain ⟨L, hL⟩ : ∃ L, L = ([some S0, some S, x2, x3, x4, x5, x6, x7] : Lcs) := ⟨_, rfl⟩
  refine call_rt (L' := L) l_law rfl rfl ?_
  rw [← hS0]
  refine q_asg (call1b (d := S0) (md0 l_stream rfl) (ar2 l_stream) rfl (by subst hS0; exact s_stream (by omega) ns) (strD_noSh _ _ _ _)) ?_
  refine q_for (src_rng1 (n := 5) rfl (by decide)) e1 ?_
  rw [← hL]
  have tt : (1, 2) ∈ ts := by decide
  have f1 := s_tday (m := k) (n := 4) (s := 9) (t := (1, 2)) (b := (2, 1)) (d := fD (1, 2)) (by omega) (by omega) (by omega) (.inl rfl) (tr_ok tt) (by decide +kernel)
  have f2 := s_tday (m := k) (n := 4) (s := 3) (t := (1, 2)) (b := (8, 1)) (d := fD (1, 2)) (by omega) (by omega) (by omega) (.inl rfl) (tr_ok tt) (by decide +kernel)
  refine q_ret (x_and (rdE (h := cal l_same (a_val (cal l_trusting_day (a_val (keepD (d := nD 4) rfl rfl) (a_val (x_tup (q_cons (keepD (d := nD 1) rfl rfl) (q_cons (keepD (d := nD 2) rfl rfl) q_end))) (a_val (keepD (d := nD 9) rfl rfl) a_end))) f1) (a_val (keepD (d := nD 2) rfl rfl) a_end)) (s_same (kk := 1) (d := nD 2) (e := nD 2) (by omega) rfl rfl rfl rfl (by decide +kernel)))) (rdE (h := cal l_same (a_val (cal l_trusting_day (a_val (keepD (d := nD 4) rfl rfl) (a_val (x_tup (q_cons (keepD (d := nD 1) rfl rfl) (q_cons (keepD (d := nD 2) rfl rfl) q_end))) (a_val (keepD (d := nD 3) rfl rfl) a_end))) f2) (a_val (keepD (d := nD 8) rfl rfl) a_end)) (s_same (kk := 1) (d := nD 8) (e := nD 8) (by omega) rfl rfl rfl rfl (by decide +kernel)))))
end
end K74

namespace K74
open PySem L2 Q
abbrev P : Program := PySem.Challenge.pw_paidlater_k74_whole_a_number_said
theorem k_law : ksOf kl (Str.ofString "law") = [] := by decide +kernel
theorem b_law : BindOk (topOf P 43) (Str.ofString "law") [Str.ofString "script"] (ksOf kl (Str.ofString "law")) := by
  refine ⟨fun _ _ _ _ _ _ us hl => match us, hl with | [_], _ => rfl, ?_⟩
  rw [k_law]
  exact fun _ h => (nomatch h)
theorem k__law_both : ksOf kl (Str.ofString "_law_both") = [] := by decide +kernel
theorem b__law_both : BindOk (topOf P 42) (Str.ofString "_law_both") [Str.ofString "price", Str.ofString "trust"] (ksOf kl (Str.ofString "_law_both")) := by
  refine ⟨fun _ _ _ _ _ _ us hl => match us, hl with | [_, _], _ => rfl, ?_⟩
  rw [k__law_both]
  exact fun _ h => (nomatch h)
theorem k__law_day : ksOf kl (Str.ofString "_law_day") = [] := by decide +kernel
theorem b__law_day : BindOk (topOf P 41) (Str.ofString "_law_day") [Str.ofString "price", Str.ofString "trust", Str.ofString "said"] (ksOf kl (Str.ofString "_law_day")) := by
  refine ⟨fun _ _ _ _ _ _ us hl => match us, hl with | [_, _, _], _ => rfl, ?_⟩
  rw [k__law_day]
  exact fun _ h => (nomatch h)
theorem k__law_draw : ksOf kl (Str.ofString "_law_draw") = [] := by decide +kernel
theorem b__law_draw : BindOk (topOf P 32) (Str.ofString "_law_draw") [Str.ofString "stream", Str.ofString "many"] (ksOf kl (Str.ofString "_law_draw")) := by
  refine ⟨fun _ _ _ _ _ _ us hl => match us, hl with | [_, _], _ => rfl, ?_⟩
  rw [k__law_draw]
  exact fun _ h => (nomatch h)
theorem k__law_frac : ksOf kl (Str.ofString "_law_frac") = [] := by decide +kernel
theorem b__law_frac : BindOk (topOf P 34) (Str.ofString "_law_frac") [Str.ofString "above", Str.ofString "below"] (ksOf kl (Str.ofString "_law_frac")) := by
  refine ⟨fun _ _ _ _ _ _ us hl => match us, hl with | [_, _], _ => rfl, ?_⟩
  rw [k__law_frac]
  exact fun _ h => (nomatch h)
theorem k__law_over : ksOf kl (Str.ofString "_law_over") = [] := by decide +kernel
theorem b__law_over : BindOk (topOf P 37) (Str.ofString "_law_over") [Str.ofString "one", Str.ofString "other"] (ksOf kl (Str.ofString "_law_over")) := by
  refine ⟨fun _ _ _ _ _ _ us hl => match us, hl with | [_, _], _ => rfl, ?_⟩
  rw [k__law_over]
  exact fun _ h => (nomatch h)
theorem k__law_plus : ksOf kl (Str.ofString "_law_plus") = [] := by decide +kernel
theorem b__law_plus : BindOk (topOf P 35) (Str.ofString "_law_plus") [Str.ofString "one", Str.ofString "other"] (ksOf kl (Str.ofString "_law_plus")) := by
  refine ⟨fun _ _ _ _ _ _ us hl => match us, hl with | [_, _], _ => rfl, ?_⟩
  rw [k__law_plus]
  exact fun _ h => (nomatch h)
theorem k__law_same : ksOf kl (Str.ofString "_law_same") = [] := by decide +kernel
theorem b__law_same : BindOk (topOf P 33) (Str.ofString "_law_same") [Str.ofString "found", Str.ofString "due"] (ksOf kl (Str.ofString "_law_same")) := by
  refine ⟨fun _ _ _ _ _ _ us hl => match us, hl with | [_, _], _ => rfl, ?_⟩
  rw [k__law_same]
  exact fun _ h => (nomatch h)
theorem k__law_stream : ksOf kl (Str.ofString "_law_stream") = [] := by decide +kernel
theorem b__law_stream : BindOk (topOf P 31) (Str.ofString "_law_stream") [Str.ofString "script"] (ksOf kl (Str.ofString "_law_stream")) := by
  refine ⟨fun _ _ _ _ _ _ us hl => match us, hl with | [_], _ => rfl, ?_⟩
  rw [k__law_stream]
  exact fun _ h => (nomatch h)
theorem k__law_under : ksOf kl (Str.ofString "_law_under") = [] := by decide +kernel
theorem b__law_under : BindOk (topOf P 38) (Str.ofString "_law_under") [Str.ofString "one", Str.ofString "other"] (ksOf kl (Str.ofString "_law_under")) := by
  refine ⟨fun _ _ _ _ _ _ us hl => match us, hl with | [_, _], _ => rfl, ?_⟩
  rw [k__law_under]
  exact fun _ h => (nomatch h)
theorem k_trusting_day : ksOf kl (Str.ofString "trusting_day") = [[Str.ofString "said", Str.ofString "trust", Str.ofString "price"]] := by decide +kernel
theorem b_trusting_day : BindOk (topOf P 28) (Str.ofString "trusting_day") [Str.ofString "price", Str.ofString "trust", Str.ofString "said"] (ksOf kl (Str.ofString "trusting_day")) := by
  refine ⟨fun _ _ _ _ _ _ us hl => match us, hl with | [_, _, _], _ => rfl, ?_⟩
  rw [k_trusting_day]
  intro ks hk
  obtain rfl := List.mem_singleton.mp hk
  · exact fun _ _ _ _ _ _ ws hl => match ws, hl with | [_, _, _], _ => rfl
theorem k_trusting_fractions : ksOf kl (Str.ofString "trusting_fractions") = [[Str.ofString "trust", Str.ofString "price"]] := by decide +kernel
theorem b_trusting_fractions : BindOk (topOf P 29) (Str.ofString "trusting_fractions") [Str.ofString "price", Str.ofString "trust"] (ksOf kl (Str.ofString "trusting_fractions")) := by
  refine ⟨fun _ _ _ _ _ _ us hl => match us, hl with | [_, _], _ => rfl, ?_⟩
  rw [k_trusting_fractions]
  intro ks hk
  obtain rfl := List.mem_singleton.mp hk
  · exact fun _ _ _ _ _ _ ws hl => match ws, hl with | [_, _], _ => rfl
theorem k__law_buying : ksOf kl (Str.ofString "_law_buying") = [] := by decide +kernel
theorem b__law_buying : BindOk (topOf P 40) (Str.ofString "_law_buying") [Str.ofString "price", Str.ofString "day", Str.ofString "days"] (ksOf kl (Str.ofString "_law_buying")) := by
  refine ⟨fun _ _ _ _ _ _ us hl => match us, hl with | [_, _, _], _ => rfl, ?_⟩
  rw [k__law_buying]
  exact fun _ h => (nomatch h)
theorem k__law_greatest : ksOf kl (Str.ofString "_law_greatest") = [] := by decide +kernel
theorem b__law_greatest : BindOk (topOf P 39) (Str.ofString "_law_greatest") [Str.ofString "some"] (ksOf kl (Str.ofString "_law_greatest")) := by
  refine ⟨fun _ _ _ _ _ _ us hl => match us, hl with | [_], _ => rfl, ?_⟩
  rw [k__law_greatest]
  exact fun _ h => (nomatch h)
theorem k__law_times : ksOf kl (Str.ofString "_law_times") = [] := by decide +kernel
theorem b__law_times : BindOk (topOf P 36) (Str.ofString "_law_times") [Str.ofString "one", Str.ofString "other"] (ksOf kl (Str.ofString "_law_times")) := by
  refine ⟨fun _ _ _ _ _ _ us hl => match us, hl with | [_, _], _ => rfl, ?_⟩
  rw [k__law_times]
  exact fun _ h => (nomatch h)
theorem k_day_by : ksOf kl (Str.ofString "day_by") = [] := by decide +kernel
theorem b_day_by : BindOk (topOf P 27) (Str.ofString "day_by") [Str.ofString "price", Str.ofString "trust", Str.ofString "is_long"] (ksOf kl (Str.ofString "day_by")) := by
  refine ⟨fun _ _ _ _ _ _ us hl => match us, hl with | [_, _, _], _ => rfl, ?_⟩
  rw [k_day_by]
  exact fun _ h => (nomatch h)
theorem k_is_one_up : ksOf kl (Str.ofString "is_one_up") = [] := by decide +kernel
theorem b_is_one_up : BindOk (topOf P 21) (Str.ofString "is_one_up") [Str.ofString "thing"] (ksOf kl (Str.ofString "is_one_up")) := by
  refine ⟨fun _ _ _ _ _ _ us hl => match us, hl with | [_], _ => rfl, ?_⟩
  rw [k_is_one_up]
  exact fun _ h => (nomatch h)
theorem k_need_price : ksOf kl (Str.ofString "need_price") = [] := by decide +kernel
theorem b_need_price : BindOk (topOf P 22) (Str.ofString "need_price") [Str.ofString "price"] (ksOf kl (Str.ofString "need_price")) := by
  refine ⟨fun _ _ _ _ _ _ us hl => match us, hl with | [_], _ => rfl, ?_⟩
  rw [k_need_price]
  exact fun _ h => (nomatch h)
theorem k_need_trust : ksOf kl (Str.ofString "need_trust") = [] := by decide +kernel
theorem b_need_trust : BindOk (topOf P 25) (Str.ofString "need_trust") [Str.ofString "trust"] (ksOf kl (Str.ofString "need_trust")) := by
  refine ⟨fun _ _ _ _ _ _ us hl => match us, hl with | [_], _ => rfl, ?_⟩
  rw [k_need_trust]
  exact fun _ h => (nomatch h)
theorem k_fraction_by : ksOf kl (Str.ofString "fraction_by") = [] := by decide +kernel
theorem b_fraction_by : BindOk (topOf P 23) (Str.ofString "fraction_by") [Str.ofString "price", Str.ofString "day"] (ksOf kl (Str.ofString "fraction_by")) := by
  refine ⟨fun _ _ _ _ _ _ us hl => match us, hl with | [_, _], _ => rfl, ?_⟩
  rw [k_fraction_by]
  exact fun _ h => (nomatch h)
theorem k_greatest : ksOf kl (Str.ofString "greatest") = [] := by decide +kernel
theorem b_greatest : BindOk (topOf P 15) (Str.ofString "greatest") [Str.ofString "things"] (ksOf kl (Str.ofString "greatest")) := by
  refine ⟨fun _ _ _ _ _ _ us hl => match us, hl with | [_], _ => rfl, ?_⟩
  rw [k_greatest]
  exact fun _ h => (nomatch h)
theorem k_reduced : ksOf kl (Str.ofString "reduced") = [] := by decide +kernel
theorem b_reduced : BindOk (topOf P 11) (Str.ofString "reduced") [Str.ofString "above", Str.ofString "below"] (ksOf kl (Str.ofString "reduced")) := by
  refine ⟨fun _ _ _ _ _ _ us hl => match us, hl with | [_, _], _ => rfl, ?_⟩
  rw [k_reduced]
  exact fun _ h => (nomatch h)
theorem k_over : ksOf kl (Str.ofString "over") = [] := by decide +kernel
theorem b_over : BindOk (topOf P 13) (Str.ofString "over") [Str.ofString "one", Str.ofString "other"] (ksOf kl (Str.ofString "over")) := by
  refine ⟨fun _ _ _ _ _ _ us hl => match us, hl with | [_, _], _ => rfl, ?_⟩
  rw [k_over]
  exact fun _ h => (nomatch h)
theorem k_times : ksOf kl (Str.ofString "times") = [] := by decide +kernel
theorem b_times : BindOk (topOf P 12) (Str.ofString "times") [Str.ofString "one", Str.ofString "other"] (ksOf kl (Str.ofString "times")) := by
  refine ⟨fun _ _ _ _ _ _ us hl => match us, hl with | [_, _], _ => rfl, ?_⟩
  rw [k_times]
  exact fun _ h => (nomatch h)
theorem k_up_from : ksOf kl (Str.ofString "up_from") = [] := by decide +kernel
theorem b_up_from : BindOk (topOf P 26) (Str.ofString "up_from") [Str.ofString "number"] (ksOf kl (Str.ofString "up_from")) := by
  refine ⟨fun _ _ _ _ _ _ us hl => match us, hl with | [_], _ => rfl, ?_⟩
  rw [k_up_from]
  exact fun _ h => (nomatch h)
theorem k_is_whole : ksOf kl (Str.ofString "is_whole") = [] := by decide +kernel
theorem b_is_whole : BindOk (topOf P 5) (Str.ofString "is_whole") [Str.ofString "thing"] (ksOf kl (Str.ofString "is_whole")) := by
  refine ⟨fun _ _ _ _ _ _ us hl => match us, hl with | [_], _ => rfl, ?_⟩
  rw [k_is_whole]
  exact fun _ h => (nomatch h)
theorem k_is_under : ksOf kl (Str.ofString "is_under") = [] := by decide +kernel
theorem b_is_under : BindOk (topOf P 14) (Str.ofString "is_under") [Str.ofString "one", Str.ofString "other"] (ksOf kl (Str.ofString "is_under")) := by
  refine ⟨fun _ _ _ _ _ _ us hl => match us, hl with | [_, _], _ => rfl, ?_⟩
  rw [k_is_under]
  exact fun _ h => (nomatch h)
theorem k_kept_fraction : ksOf kl (Str.ofString "kept_fraction") = [] := by decide +kernel
theorem b_kept_fraction : BindOk (topOf P 16) (Str.ofString "kept_fraction") [Str.ofString "thing"] (ksOf kl (Str.ofString "kept_fraction")) := by
  refine ⟨fun _ _ _ _ _ _ us hl => match us, hl with | [_], _ => rfl, ?_⟩
  rw [k_kept_fraction]
  exact fun _ h => (nomatch h)
theorem k_common_divisor : ksOf kl (Str.ofString "common_divisor") = [] := by decide +kernel
theorem b_common_divisor : BindOk (topOf P 10) (Str.ofString "common_divisor") [Str.ofString "one", Str.ofString "other"] (ksOf kl (Str.ofString "common_divisor")) := by
  refine ⟨fun _ _ _ _ _ _ us hl => match us, hl with | [_, _], _ => rfl, ?_⟩
  rw [k_common_divisor]
  exact fun _ h => (nomatch h)
theorem k_is_row : ksOf kl (Str.ofString "is_row") = [] := by decide +kernel
theorem b_is_row : BindOk (topOf P 6) (Str.ofString "is_row") [Str.ofString "thing", Str.ofString "many"] (ksOf kl (Str.ofString "is_row")) := by
  refine ⟨fun _ _ _ _ _ _ us hl => match us, hl with | [_, _], _ => rfl, ?_⟩
  rw [k_is_row]
  exact fun _ h => (nomatch h)
theorem k_is_list : ksOf kl (Str.ofString "is_list") = [] := by decide +kernel
theorem b_is_list : BindOk (topOf P 4) (Str.ofString "is_list") [Str.ofString "thing"] (ksOf kl (Str.ofString "is_list")) := by
  refine ⟨fun _ _ _ _ _ _ us hl => match us, hl with | [_], _ => rfl, ?_⟩
  rw [k_is_list]
  exact fun _ h => (nomatch h)
def fn : List He.DefD := [defOf P (Str.ofString "law") 43,
 defOf P (Str.ofString "_law_both") 42,
 defOf P (Str.ofString "_law_day") 41,
 defOf P (Str.ofString "_law_draw") 32,
 defOf P (Str.ofString "_law_frac") 34,
 defOf P (Str.ofString "_law_over") 37,
 defOf P (Str.ofString "_law_plus") 35,
 defOf P (Str.ofString "_law_same") 33,
 defOf P (Str.ofString "_law_stream") 31,
 defOf P (Str.ofString "_law_under") 38,
 defOf P (Str.ofString "trusting_day") 28,
 defOf P (Str.ofString "trusting_fractions") 29,
 defOf P (Str.ofString "_law_buying") 40,
 defOf P (Str.ofString "_law_greatest") 39,
 defOf P (Str.ofString "_law_times") 36,
 defOf P (Str.ofString "day_by") 27,
 defOf P (Str.ofString "is_one_up") 21,
 defOf P (Str.ofString "need_price") 22,
 defOf P (Str.ofString "need_trust") 25,
 defOf P (Str.ofString "fraction_by") 23,
 defOf P (Str.ofString "greatest") 15,
 defOf P (Str.ofString "reduced") 11,
 defOf P (Str.ofString "over") 13,
 defOf P (Str.ofString "times") 12,
 defOf P (Str.ofString "up_from") 26,
 defOf P (Str.ofString "is_whole") 5,
 defOf P (Str.ofString "is_under") 14,
 defOf P (Str.ofString "kept_fraction") 16,
 defOf P (Str.ofString "common_divisor") 10,
 defOf P (Str.ofString "is_row") 6,
 defOf P (Str.ofString "is_list") 4]
def names0 : List PySem.Str := ["LaterError", "BadPrice", "is_list", "is_whole", "is_row", "NOUGHT", "ONE", "common_divisor", "reduced", "times", "over", "is_under", "greatest", "kept_fraction", "BadTrust", "BadSaid", "is_one_up", "need_price", "fraction_by", "need_trust", "up_from", "day_by", "trusting_day", "trusting_fractions", "_law_stream", "_law_draw", "_law_same", "_law_frac", "_law_plus", "_law_times"]
def names1 : List PySem.Str := ["_law_over", "_law_under", "_law_greatest", "_law_buying", "_law_day", "_law_both"]
def names : List PySem.Str := names0 ++ names1
abbrev R : PySem.W.OpenRow := PySem.W.OpenLaw.row PySem.Challenge.rw_paidlater_k74_whole_a_number_said
abbrev hk : PySem.W.Hook := hookQ 4 (faOf T bs tb) fn tb
def ob (s : PySem.W.SharedT) : He.AlD × Bool := obQ 4 (faOf T bs tb) fn tb (HandSHeadRun.getT s)
theorem ob_eq (s : PySem.W.SharedT) : ob s = hk.obs s.abs := obQ_eq (HandSHeadRun.getT_eq s)
theorem run (w : World) : HandSHeadRun.RunEq R (PySem.W.view R.prog [43]) hk ob 6000 names w := by
  intro os
  kernel_rfl
theorem entries {w : World} {K : PySem.W.Frag} {mg : Str → Option Value} {base h : Heap} (X : K.In h) (G : h.Ns mainGlobals mg) (s : He.SaysD (faOf T bs tb) fn K) : ∀ p ∈ T, ∃ a fd, FnI P w K mg base kl p.1 p.2.ps a fd ∧ match p.2.prim with
      | none => ∃ st, FunD K p.1 p.1 (defArgs st) (defBody st) (defScope st) [] [] a fd ∧ chkFn (T.map (·.1)) bs gs kl p.2 st = true
      | some g => ∀ Z : EnvQ, Z.ar p.1 = p.2.ps → Z.md p.1 = p.2.md → (∀ ds, Z.call p.1 ds = g ds) → FnOk P w K mg base (L2.CX P w) (8 + 1) a fd p.2.ps (SpF K mg Z p.1) := by
  intro p hp
  have hp0 := hp
  unfold T at hp
  rcases List.mem_cons.mp hp with rfl | hp
  · exact entry_of (c := 8) (i := 0) (j := 43) X G s hp0 rfl rfl b_law c_law
  rcases List.mem_cons.mp hp with rfl | hp
  · exact entry_of (c := 8) (i := 1) (j := 42) X G s hp0 rfl rfl b__law_both c__law_both
  rcases List.mem_cons.mp hp with rfl | hp
  · exact entry_of (c := 8) (i := 2) (j := 41) X G s hp0 rfl rfl b__law_day c__law_day
  rcases List.mem_cons.mp hp with rfl | hp
  · exact entry_of (c := 8) (i := 3) (j := 32) X G s hp0 rfl rfl b__law_draw c__law_draw
  rcases List.mem_cons.mp hp with rfl | hp
  · exact entry_of (c := 8) (i := 4) (j := 34) X G s hp0 rfl rfl b__law_frac c__law_frac
  rcases List.mem_cons.mp hp with rfl | hp
  · exact entry_of (c := 8) (i := 5) (j := 37) X G s hp0 rfl rfl b__law_over c__law_over
  rcases List.mem_cons.mp hp with rfl | hp
  · exact entry_of (c := 8) (i := 6) (j := 35) X G s hp0 rfl rfl b__law_plus c__law_plus
  rcases List.mem_cons.mp hp with rfl | hp
  · exact entry_of (c := 8) (i := 7) (j := 33) X G s hp0 rfl rfl b__law_same c__law_same
  rcases List.mem_cons.mp hp with rfl | hp
  · exact entry_of (c := 8) (i := 8) (j := 31) X G s hp0 rfl rfl b__law_stream c__law_stream
  rcases List.mem_cons.mp hp with rfl | hp
  · exact entry_of (c := 8) (i := 9) (j := 38) X G s hp0 rfl rfl b__law_under c__law_under
  rcases List.mem_cons.mp hp with rfl | hp
  · exact entry_of (c := 8) (i := 10) (j := 28) X G s hp0 rfl rfl b_trusting_day c_trusting_day
  rcases List.mem_cons.mp hp with rfl | hp
  · exact entry_of (c := 8) (i := 11) (j := 29) X G s hp0 rfl rfl b_trusting_fractions c_trusting_fractions
  rcases List.mem_cons.mp hp with rfl | hp
  · exact entry_of (c := 8) (i := 12) (j := 40) X G s hp0 rfl rfl b__law_buying c__law_buying
  rcases List.mem_cons.mp hp with rfl | hp
  · exact entry_of (c := 8) (i := 13) (j := 39) X G s hp0 rfl rfl b__law_greatest c__law_greatest
  rcases List.mem_cons.mp hp with rfl | hp
  · exact entry_of (c := 8) (i := 14) (j := 36) X G s hp0 rfl rfl b__law_times c__law_times
  rcases List.mem_cons.mp hp with rfl | hp
  · exact entry_of (c := 8) (i := 15) (j := 27) X G s hp0 rfl rfl b_day_by c_day_by
  rcases List.mem_cons.mp hp with rfl | hp
  · exact entry_of (c := 8) (i := 16) (j := 21) X G s hp0 rfl rfl b_is_one_up c_is_one_up
  rcases List.mem_cons.mp hp with rfl | hp
  · exact entry_of (c := 8) (i := 17) (j := 22) X G s hp0 rfl rfl b_need_price c_need_price
  rcases List.mem_cons.mp hp with rfl | hp
  · exact entry_of (c := 8) (i := 18) (j := 25) X G s hp0 rfl rfl b_need_trust c_need_trust
  rcases List.mem_cons.mp hp with rfl | hp
  · exact entry_of (c := 8) (i := 19) (j := 23) X G s hp0 rfl rfl b_fraction_by c_fraction_by
  rcases List.mem_cons.mp hp with rfl | hp
  · exact entry_of (c := 8) (i := 20) (j := 15) X G s hp0 rfl rfl b_greatest c_greatest
  rcases List.mem_cons.mp hp with rfl | hp
  · exact entry_of (c := 8) (i := 21) (j := 11) X G s hp0 rfl rfl b_reduced c_reduced
  rcases List.mem_cons.mp hp with rfl | hp
  · exact entry_of (c := 8) (i := 22) (j := 13) X G s hp0 rfl rfl b_over c_over
  rcases List.mem_cons.mp hp with rfl | hp
  · exact entry_of (c := 8) (i := 23) (j := 12) X G s hp0 rfl rfl b_times c_times
  rcases List.mem_cons.mp hp with rfl | hp
  · exact entry_of (c := 8) (i := 24) (j := 26) X G s hp0 rfl rfl b_up_from c_up_from
  rcases List.mem_cons.mp hp with rfl | hp
  · exact entry_of (c := 8) (i := 25) (j := 5) X G s hp0 rfl rfl b_is_whole c_is_whole
  rcases List.mem_cons.mp hp with rfl | hp
  · exact entry_of (c := 8) (i := 26) (j := 14) X G s hp0 rfl rfl b_is_under c_is_under
  rcases List.mem_cons.mp hp with rfl | hp
  · exact entry_of (c := 8) (i := 27) (j := 16) X G s hp0 rfl rfl b_kept_fraction c_kept_fraction
  rcases List.mem_cons.mp hp with rfl | hp
  · exact entry_of (c := 8) (i := 28) (j := 10) X G s hp0 rfl rfl b_common_divisor c_common_divisor
  rcases List.mem_cons.mp hp with rfl | hp
  · exact entry_of (c := 8) (i := 29) (j := 6) X G s hp0 rfl rfl b_is_row c_is_row
  obtain rfl := List.mem_singleton.mp hp
  · exact entry_of (c := 8) (i := 30) (j := 4) X G s hp0 rfl rfl b_is_list c_is_list
end K74
open PySem PySem.W PySem.Calls PyProof.Rows
theorem K74.holds_of {n N : Nat} (hr : L2.Room (n + 8 + 2) callerA) (plain : ∀ ns : List Int, ns.length ≤ 63 → (Q.envN K74.T (Q.constG K74.tb) N (n + 1)).call ("law" : PySem.Str) [.frz (ns.map Q.D.int)] = .ok (.bl true, [])) : PySem.Challenge.rw_paidlater_k74_whole_a_number_said.Holds := by
  w_on; o_law
  refine HandSHeadRun.head_any (r := K74.R) (q := view K74.R.prog [43]) (H := K74.hk) (ob := K74.ob) (M := 6000) (loose := K74.names) (d := HandSHeadRun.topDef K74.R.prog 43) (kwd := []) K74.ob_eq
    (by kernel_rfl) (fun s => by kernel_rfl) K74.run (by kernel_rfl) (by kernel_rfl) (by kernel_rfl) (by rfl) (by first | assumption | decide +kernel) (by decide +kernel) ⟨rfl, rfl, rfl, rfl, rfl, by decide +kernel⟩ ?hw ?hc
  case hw => w_witness2
  case hc =>
    exact Q.walk_T (l := PySem.Challenge.rw_paidlater_k74_whole_a_number_said) (i := 0) (j := 43) (fd0 := K74.fn_law) rfl (by decide) (by kernel_rfl) hr (by kernel_rfl) (by decide +kernel) rfl rfl rfl rfl rfl K74.c_law K74.b_law (fun X G s => K74.entries X G s) plain

theorem PySem.Challenge.cw_paidlater_k74_whole_a_number_said_holds : PySem.Challenge.rw_paidlater_k74_whole_a_number_said.Holds :=
  K74.holds_of (n := 8) (N := K74.NN) ⟨rfl, by decide, by decide⟩ fun ns h => K74.law_plain (k := 8) (by decide) ns h
