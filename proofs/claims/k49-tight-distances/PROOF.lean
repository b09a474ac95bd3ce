import PyProof.Rows.All
import Wide.All
import OpenK.AllK
import Wide.FinOn
import HandS.ForMost
import HandS.ForExc
import HandS.TryMany
import HandS.ExcField
import HandS.ExcInit
import HandS.Flow
import HandS.Style
import HandS.TupAny
import HandS.Deep
import HandS.IsInst
import HandS.Conv
import HandS.More
import HandS.Small
import HandS.MakeKw
import KE.KExcInit
import PySem.Challenge.RW_stayskept_k49_tight_distances
import KE.KExcLine
set_option Elab.async false
set_option linter.all false
set_option maxRecDepth 100000
set_option maxHeartbeats 8000000
namespace SK
open PySem L2
open PySem.W (Frag)

/-! ## Heaps that grow: tuples and locked things stay; all but W stays -/
def Grow (H H' : Hp) : Prop := (∀ a xs, H a = some (.tup xs) → H' a = some (.tup xs)) ∧ ∀ a o u, H a = some (.frz o u) → H' a = some (.frz o u)
theorem Grow.refl (H : Hp) : Grow H H := ⟨fun _ _ h => h, fun _ _ _ h => h⟩
theorem Grow.trans {H H1 H2 : Hp} (a : Grow H H1) (b : Grow H1 H2) : Grow H H2 := ⟨fun x xs h => b.1 x xs (a.1 x xs h), fun x o u h => b.2 x o u (a.2 x o u h)⟩
structure Mod (W : List Addr) (H H' : Hp) : Prop where
  keep : ∀ a o, a ∉ W → H a = some o → H' a = some o
  grow : Grow H H'
theorem Mod.refl (W : List Addr) (H : Hp) : Mod W H H := ⟨fun _ _ _ h => h, Grow.refl H⟩
theorem Mod.trans {W : List Addr} {H H1 H2 : Hp} (a : Mod W H H1) (b : Mod W H1 H2) : Mod W H H2 := ⟨fun x o n h => b.keep x o n (a.keep x o n h), a.grow.trans b.grow⟩
theorem Mod.mono {W W' : List Addr} {H H' : Hp} (a : Mod W H H') (s : ∀ x ∈ W, x ∈ W') : Mod W' H H' := ⟨fun x o n h => a.keep x o (fun z => n (s x z)) h, a.grow⟩
theorem Mod.nil {W : List Addr} {H H' : Hp} (a : Mod [] H H') : Mod W H H' := a.mono (fun _ z => nomatch z)
theorem Mod.free {H H' : Hp} (a : Mod [] H H') {p : Addr} (h : H' p = none) : H p = none := by
  cases e : H p with
  | none => rfl
  | some o => rw [a.keep p o (by simp) e] at h; cases h
theorem Mod.same {H H' : Hp} (a : Mod [] H H') : Same H H' := fun b o e => a.keep b o (by simp) e
theorem Mod.of_same {H H' : Hp} (a : Same H H') : Mod [] H H' := ⟨fun b o _ e => a b o e, fun b _ e => a b _ e, fun b _ _ e => a b _ e⟩
theorem rd_grow {H H' : Hp} (g : Grow H H') {a : Addr} {xs : List V} (h : Rd H a (.tup xs)) : Rd H' a (.tup xs) := by
  rcases h with h | ⟨o, h⟩
  · exact .inl (g.1 _ _ h)
  · exact .inr ⟨o, g.2 _ _ _ h⟩
theorem Grow.sqT {K : Frag} {H H' : Hp} (g : Grow H H') {a : Addr} {xs : List V} (h : SqT K H a xs) : SqT K H' a xs := by
  rcases h with h | h
  · exact .inl (rd_grow g h)
  · exact .inr h
theorem Mod.sqL {K : Frag} {W : List Addr} {H H' : Hp} (m : Mod W H H') {a : Addr} {xs : List V} (n : a ∉ W) (h : SqL K H a xs) : SqL K H' a xs := by
  rcases h with (h | ⟨o, h⟩) | h
  · exact .inl (.inl (m.keep _ _ n h))
  · exact .inl (.inr ⟨o, m.grow.2 _ _ _ h⟩)
  · exact .inr h
/-- a statement of a heap that later heaps bear, too -/
def Stab (Φ : Hp → Prop) : Prop := ∀ H H', Grow H H' → Φ H → Φ H'
theorem stab_true : Stab (fun _ => True) := fun _ _ _ h => h
theorem stab_and {Φ Ψ : Hp → Prop} (a : Stab Φ) (b : Stab Ψ) : Stab (fun H => Φ H ∧ Ψ H) := fun H H' g h => ⟨a H H' g h.1, b H H' g h.2⟩
theorem stab_all {α : Type} {Φ : α → Hp → Prop} (a : ∀ x, Stab (Φ x)) : Stab (fun H => ∀ x, Φ x H) := fun H H' g h x => a x H H' g (h x)
theorem stab_imp {p : Prop} {Φ : Hp → Prop} (a : Stab Φ) : Stab (fun H => p → Φ H) := fun H H' g h x => a H H' g (h x)
theorem stab_tup {a : Addr} {xs : List V} : Stab (fun H => H a = some (.tup xs)) := fun _ _ g h => g.1 _ _ h
theorem stab_sqT {K : Frag} {a : Addr} {xs : List V} : Stab (fun H => SqT K H a xs) := fun _ _ g h => g.sqT h
theorem stab_p {p : Prop} : Stab (fun _ => p) := fun _ _ _ h => h

/-! ## The ledger: what stands at the addresses that one names -/
abbrev Rec := List (Addr × HO)
structure Led (W : List Addr) (H0 H : Hp) (rs ls : Rec) (Φ : Hp → Prop) : Prop where
  md : Mod W H0 H
  rd : ∀ p ∈ rs, H p.1 = some p.2
  at_ : ∀ p ∈ ls, H p.1 = some p.2
  ndl : (ls.map (·.1)).Nodup
  nrl : ∀ p ∈ rs, ∀ q ∈ ls, p.1 ≠ q.1
  new : ∀ p ∈ ls, p.1 ∈ W ∨ H0 p.1 = none
  st : Stab Φ
  ph : Φ H
section
variable {W : List Addr} {H0 H H' : Hp} {rs ls : Rec} {Φ Ψ : Hp → Prop} {a b p : Addr} {o o' : HO} {i : Nat}
theorem Led.get (L : Led W H0 H rs ls Φ) (i : Nat) (h : ls[i]? = some (a, o)) : H a = some o := L.at_ _ (List.mem_of_getElem? h)
theorem Led.getR (L : Led W H0 H rs ls Φ) (i : Nat) (h : rs[i]? = some (a, o)) : H a = some o := L.rd _ (List.mem_of_getElem? h)
theorem Led.sqT {K : Frag} {xs : List V} (L : Led W H0 H rs ls Φ) (h : SqT K H0 a xs) : SqT K H a xs := L.md.grow.sqT h
theorem Led.tup {xs : List V} (L : Led W H0 H rs ls Φ) (h : H0 a = some (.tup xs)) : H a = some (.tup xs) := L.md.grow.1 _ _ h
theorem Led.sqL {K : Frag} {xs : List V} (L : Led W H0 H rs ls Φ) (n : a ∉ W) (h : SqL K H0 a xs) : SqL K H a xs := L.md.sqL n h
theorem Led.free0 (L : Led W H0 H rs ls Φ) (h : H p = none) : p ∈ W ∨ H0 p = none := by
  by_cases hw : p ∈ W
  · exact .inl hw
  · cases e : H0 p with
    | none => exact .inr rfl
    | some u => rw [L.md.keep p u hw e] at h; cases h
theorem grow_new (h : H p = none) : Grow H (upd H p o) := ⟨fun a xs e => by rw [upd_ne (ne_of_none e h)]; exact e, fun a u v e => by rw [upd_ne (ne_of_none e h)]; exact e⟩
theorem mod_new {W : List Addr} (h : H p = none) : Mod W H (upd H p o) := ⟨fun a u _ e => by rw [upd_ne (ne_of_none e h)]; exact e, grow_new h⟩
theorem Led.alloc (L : Led W H0 H rs ls Φ) (h : H p = none) : Led W H0 (upd H p o) rs ((p, o) :: ls) Φ where
  md := L.md.trans (mod_new h)
  rd := fun q hq => by rw [upd_ne (ne_of_none (L.rd q hq) h)]; exact L.rd q hq
  at_ := fun q hq => by
    rcases List.mem_cons.mp hq with e | hq
    · subst e; exact upd_same
    · rw [upd_ne (ne_of_none (L.at_ q hq) h)]; exact L.at_ q hq
  ndl := by
    rw [List.map_cons, List.nodup_cons]
    refine ⟨fun hm => ?_, L.ndl⟩
    obtain ⟨q, hq, e⟩ := List.mem_map.mp hm
    have z : q.1 = p := e
    have := L.at_ q hq
    rw [z, h] at this; cases this
  nrl := fun q hq r hr => by
    rcases List.mem_cons.mp hr with e | hr
    · subst e; exact ne_of_none (L.rd q hq) h
    · exact L.nrl q hq r hr
  new := fun q hq => by
    rcases List.mem_cons.mp hq with e | hq
    · subst e; exact L.free0 h
    · exact L.new q hq
  st := L.st
  ph := L.st _ _ (grow_new h) L.ph
theorem mut_not_tup {xs : List V} (m : Mut (some o)) : o ≠ .tup xs := fun e => by rw [e] at m; exact m
theorem mut_not_frz {u : Obj} {v : HO} (m : Mut (some o)) : o ≠ .frz u v := fun e => by rw [e] at m; exact m
theorem grow_set (h : H b = some o) (m : Mut (some o)) : Grow H (upd H b o') :=
  ⟨fun a xs e => by rw [upd_ne (ne_of e h (Ne.symm (mut_not_tup m)))]; exact e, fun a u v e => by rw [upd_ne (ne_of e h (Ne.symm (mut_not_frz m)))]; exact e⟩
theorem mem_set_cases {α : Type} : ∀ {l : List α} {i : Nat} {x y : α}, y ∈ l.set i x → y = x ∨ ∃ j, j ≠ i ∧ l[j]? = some y
  | [], i, x, y, h => by simp at h
  | z :: l, 0, x, y, h => by
    rcases List.mem_cons.mp h with e | h
    · exact .inl e
    · obtain ⟨j, hj⟩ := List.getElem?_of_mem h
      exact .inr ⟨j + 1, by omega, by simpa using hj⟩
  | z :: l, i + 1, x, y, h => by
    rcases List.mem_cons.mp h with e | h
    · exact .inr ⟨0, by omega, by simp [e]⟩
    · rcases mem_set_cases h with e | ⟨j, h1, h2⟩
      · exact .inl e
      · exact .inr ⟨j + 1, by omega, by simpa using h2⟩
theorem nodup_at {l : List Addr} (n : l.Nodup) {i j : Nat} {x : Addr} (h1 : l[i]? = some x) (h2 : l[j]? = some x) : i = j := by
  obtain ⟨a1, e1⟩ := List.getElem?_eq_some_iff.mp h1
  obtain ⟨a2, e2⟩ := List.getElem?_eq_some_iff.mp h2
  exact (List.getElem_inj n).mp (e1.trans e2.symm)
theorem map_set_same : ∀ {l : Rec} {i : Nat} {b : Addr} {o o' : HO}, l[i]? = some (b, o) → (l.set i (b, o')).map (·.1) = l.map (·.1)
  | [], i, b, o, o', h => by simp at h
  | z :: l, 0, b, o, o', h => by
    have e : z = (b, o) := by simpa using h
    subst e; rfl
  | z :: l, i + 1, b, o, o', h => by
    show z.1 :: _ = z.1 :: _
    rw [map_set_same (l := l) (by simpa using h)]
/-- an entry is changed; all else stays -/
theorem Led.change (L : Led W H0 H rs ls Φ) (hi : ls[i]? = some (b, o)) (m : Mod [b] H H') (hb : H' b = some o') : Led W H0 H' rs (ls.set i (b, o')) Φ := by
  have hw := L.new _ (List.mem_of_getElem? hi)
  have hbH : H b = some o := L.get i hi
  refine ⟨⟨fun a u n e => ?_, L.md.grow.trans m.grow⟩, fun q hq => ?_, fun q hq => ?_, ?_, fun q hq r hr => ?_, fun q hq => ?_, L.st, L.st _ _ m.grow L.ph⟩
  · refine m.keep a u (fun z => ?_) (L.md.keep a u n e)
    have z' : a = b := by simpa using z
    subst z'
    rcases hw with h | h
    · exact n h
    · rw [h] at e; cases e
  · refine m.keep _ _ (fun z => ?_) (L.rd q hq)
    exact L.nrl q hq _ (List.mem_of_getElem? hi) (by simpa using z)
  · rcases mem_set_cases hq with e | ⟨j, hj, e⟩
    · subst e; exact hb
    · refine m.keep _ _ (fun z => hj ?_) (L.get j e)
      have z' : q.1 = b := by simpa using z
      refine nodup_at L.ndl (x := b) (by rw [List.getElem?_map, e]; exact congrArg some z') (by rw [List.getElem?_map, hi]; rfl)
  · rw [map_set_same hi]; exact L.ndl
  · rcases mem_set_cases hr with e | ⟨j, _, e⟩
    · subst e; exact L.nrl q hq (b, o) (List.mem_of_getElem? hi)
    · exact L.nrl q hq r (List.mem_of_getElem? e)
  · rcases mem_set_cases hq with e | ⟨j, _, e⟩
    · subst e; exact hw
    · exact L.new q (List.mem_of_getElem? e)
theorem mod_set (h : H b = some o) (m : Mut (some o)) : Mod [b] H (upd H b o') := ⟨fun a u n e => by rw [upd_ne (fun z => n (by simp [z]))]; exact e, grow_set h m⟩
theorem Led.put (L : Led W H0 H rs ls Φ) (hi : ls[i]? = some (b, o)) (m : Mut (some o)) : Led W H0 (upd H b o') rs (ls.set i (b, o')) Φ :=
  L.change hi (mod_set (L.get i hi) m) upd_same
/-- nothing of ours is changed -/
theorem Led.stay (L : Led W H0 H rs ls Φ) (m : Mod [] H H') : Led W H0 H' rs ls Φ where
  md := L.md.trans m.nil
  rd := fun q hq => m.keep _ _ (by simp) (L.rd q hq)
  at_ := fun q hq => m.keep _ _ (by simp) (L.at_ q hq)
  ndl := L.ndl
  nrl := L.nrl
  new := L.new
  st := L.st
  ph := L.st _ _ m.grow L.ph
/-- a new object that a call made -/
theorem Led.gain (L : Led W H0 H rs ls Φ) (hp : H p = none) (m : Mod [] H H') (h : H' p = some o) : Led W H0 H' rs ((p, o) :: ls) Φ where
  md := L.md.trans m.nil
  rd := (L.stay m).rd
  at_ := fun q hq => by
    rcases List.mem_cons.mp hq with e | hq
    · subst e; exact h
    · exact (L.stay m).at_ q hq
  ndl := (L.alloc (o := o) hp).ndl
  nrl := (L.alloc (o := o) hp).nrl
  new := (L.alloc (o := o) hp).new
  st := L.st
  ph := L.st _ _ m.grow L.ph
/-- .. beside a change of b -/
theorem Led.gainC {q : HO} (L : Led W H0 H rs ls Φ) (hi : ls[i]? = some (b, o)) (m : Mod [b] H H') (hb : H' b = some o') (hp : H p = none) (h : H' p = some q) : Led W H0 H' rs ((p, q) :: ls.set i (b, o')) Φ where
  md := (L.change hi m hb).md
  rd := (L.change hi m hb).rd
  at_ := fun r hr => by
    rcases List.mem_cons.mp hr with e | hr
    · subst e; exact h
    · exact (L.change hi m hb).at_ r hr
  ndl := by
    have q := (L.alloc (o := o) hp).ndl
    rw [List.map_cons] at q ⊢
    rw [map_set_same hi]; exact q
  nrl := fun r hr s hs => by
    rcases List.mem_cons.mp hs with e | hs
    · subst e; exact (L.alloc (o := o) hp).nrl r hr (p, o) List.mem_cons_self
    · exact (L.change hi m hb).nrl r hr s hs
  new := fun r hr => by
    rcases List.mem_cons.mp hr with e | hr
    · subst e; exact L.free0 hp
    · exact (L.change hi m hb).new r hr
  st := L.st
  ph := L.st _ _ m.grow L.ph
theorem Led.add (L : Led W H0 H rs ls Φ) (s : Stab Ψ) (h : Ψ H) : Led W H0 H rs ls (fun H => Φ H ∧ Ψ H) := ⟨L.md, L.rd, L.at_, L.ndl, L.nrl, L.new, stab_and L.st s, L.ph, h⟩
theorem Led.phi (L : Led W H0 H rs ls Φ) (s : Stab Ψ) (h : Ψ H) : Led W H0 H rs ls Ψ := ⟨L.md, L.rd, L.at_, L.ndl, L.nrl, L.new, s, h⟩
theorem Led.ne (L : Led W H0 H rs ls Φ) (i j : Nat) (hi : ls[i]? = some (a, o)) (hj : ls[j]? = some (b, o')) (n : i ≠ j) : a ≠ b := fun e => n (nodup_at L.ndl (x := a) (by rw [List.getElem?_map, hi]; rfl) (by rw [List.getElem?_map, hj, e]; rfl))
theorem Led.fresh0 (L : Led [] H0 H rs ls Φ) (i : Nat) (hi : ls[i]? = some (a, o)) : H0 a = none := (L.new _ (List.mem_of_getElem? hi)).resolve_left (by simp)
theorem Led.fresh1 (L : Led [b] H0 H rs ls Φ) (i j : Nat) (hi : ls[i]? = some (a, o)) (hj : ls[j]? = some (b, o')) (n : i ≠ j) : H0 a = none := (L.new _ (List.mem_of_getElem? hi)).resolve_left (fun z => L.ne i j hi hj n (by simpa using z))
/-- fewer entries -/
theorem Led.sub {ls' : Rec} (L : Led W H0 H rs ls Φ) (s : ls'.Sublist ls) : Led W H0 H rs ls' Φ :=
  ⟨L.md, L.rd, fun p h => L.at_ p (s.subset h), L.ndl.sublist (s.map _), fun p hp q hq => L.nrl p hp q (s.subset hq), fun p h => L.new p (s.subset h), L.st, L.ph⟩
theorem Led.subR {rs' : Rec} (L : Led W H0 H rs ls Φ) (s : ∀ p ∈ rs', p ∈ rs) : Led W H0 H rs' ls Φ :=
  ⟨L.md, fun p h => L.rd p (s p h), L.at_, L.ndl, fun p hp q hq => L.nrl p (s p hp) q hq, L.new, L.st, L.ph⟩
theorem Led.perm {ls' : Rec} (L : Led W H0 H rs ls Φ) (s : ls'.Perm ls) : Led W H0 H rs ls' Φ :=
  ⟨L.md, L.rd, fun p h => L.at_ p (s.subset h), (s.map _).nodup_iff.mpr L.ndl, fun p hp q hq => L.nrl p hp q (s.subset hq), fun p h => L.new p (s.subset h), L.st, L.ph⟩
theorem Led.start0 (H : Hp) : Led [] H H [] [] (fun _ => True) := ⟨Mod.refl _ _, by simp, by simp, by simp, by simp, by simp, stab_true, trivial⟩
theorem Led.start1 (h : H b = some o) : Led [b] H H [] [(b, o)] (fun _ => True) := ⟨Mod.refl _ _, by simp, by simpa using h, by simp, by simp, by simp, stab_true, trivial⟩
theorem Led.read (L : Led W H0 H rs ls Φ) (h : H a = some o) (n : ∀ q ∈ ls, a ≠ q.1) : Led W H0 H ((a, o) :: rs) ls Φ :=
  ⟨L.md, fun q hq => (List.mem_cons.mp hq).elim (fun e => by subst e; exact h) (L.rd q), L.at_, L.ndl, fun q hq r hr => (List.mem_cons.mp hq).elim (fun e => by subst e; exact n r hr) (fun z => L.nrl q z r hr), L.new, L.st, L.ph⟩
end
end SK
namespace SK
open PySem L2
open PySem.W (Frag)
/-! ## One step of a reading each -/
section
variable {K : Frag} {σ : L2.St} {H : Hp} {D : Ends} {Q : VK} {v x y : V} {ta tb tc te to ti tv : TE} {t u tt : TT} {s s1 s2 : TS} {g : TG} {r r' : R2}
theorem x_seq (h : s1 { D with nx := s2 D } σ H) : tSeq s1 s2 D σ H := h
theorem x_nx (h : D.nx σ H) : tNext D σ H := h
theorem x_brk (h : D.bk σ H) : tBreak D σ H := h
theorem x_cnt (h : D.ct σ H) : tCont D σ H := h
theorem x_drop (h : te σ H fun _ H1 => D.nx σ H1) : tDrop te D σ H := h
theorem x_ret (h : te σ H D.rt) : tRet te D σ H := h
theorem x_retN (h : D.rt .non H) : tRetN D σ H := h
def IfS (b : Bool) (s1 s2 : TS) (D : Ends) (σ : L2.St) (H : Hp) : Prop := if b = true then s1 D σ H else s2 D σ H
theorem x_if (h : t σ H fun b H1 => IfS b s1 s2 D σ H1) : tIfS t s1 s2 D σ H := h
theorem IfS.yes (h : s1 D σ H) : IfS true s1 s2 D σ H := h
theorem IfS.no (h : s2 D σ H) : IfS false s1 s2 D σ H := h
theorem IfS.yesN (h : s1 D σ H) : IfS (!false) s1 s2 D σ H := h
theorem IfS.noN (h : s2 D σ H) : IfS (!true) s1 s2 D σ H := h
theorem IfS.by_ {b : Bool} (h1 : b = true → s1 D σ H) (h2 : b = false → s2 D σ H) : IfS b s1 s2 D σ H := by
  cases b with
  | true => exact h1 rfl
  | false => exact h2 rfl
theorem x_asg (h : te σ H fun x H1 => g x σ H1 D.nx) : tAsg te g D σ H := h
theorem x_name {i : Nat} {Q : L2.St → Hp → Prop} (h : Q (σ.set i (some v)) H) : gName i v σ H Q := h
theorem x_gtup {a : Addr} {xs : List V} {n : Nat} {gs : TGs} {Q : L2.St → Hp → Prop} (hs : SqT K H a xs) (hn : xs.length = n) (h : gs xs σ H Q) : gTup K n gs (.ref a) σ H Q := ⟨a, xs, rfl, hs, hn, h⟩
theorem x_gnil {Q : L2.St → Hp → Prop} (h : Q σ H) : gNil [] σ H Q := ⟨rfl, h⟩
theorem x_gcons {g : TG} {gs : TGs} {vs : List V} {Q : L2.St → Hp → Prop} (h : g v σ H fun σ' H' => gs vs σ' H' Q) : gCons g gs (v :: vs) σ H Q := ⟨v, vs, rfl, h⟩
theorem x_gsub {ts : TSet} {Q : L2.St → Hp → Prop} (h : to σ H fun o H1 => ti σ H1 fun i H2 => ts o i v H2 fun H3 => Q σ H3) : gSub to ti ts v σ H Q := h
def Par (i j : Nat) (σ : L2.St) (N : L2.St → Hp → Prop) (vs : List V) (H : Hp) : Prop := ∃ v w, vs = [v, w] ∧ N ((σ.set i (some v)).set j (some w)) H
theorem Par.mk {i j : Nat} {N : L2.St → Hp → Prop} {v w : V} (h : N ((σ.set i (some v)).set j (some w)) H) : Par i j σ N [v, w] H := ⟨v, w, rfl, h⟩
theorem x_par {i j : Nat} {ta : TA} (h : ta σ H (Par i j σ D.nx)) : tPar i j ta D σ H := h
def Par3 (i j l : Nat) (σ : L2.St) (N : L2.St → Hp → Prop) (vs : List V) (H : Hp) : Prop := ∃ u v w, vs = [u, v, w] ∧ N (((σ.set i (some u)).set j (some v)).set l (some w)) H
theorem Par3.mk {i j l : Nat} {N : L2.St → Hp → Prop} {u v w : V} (h : N (((σ.set i (some u)).set j (some v)).set l (some w)) H) : Par3 i j l σ N [u, v, w] H := ⟨u, v, w, rfl, h⟩
theorem x_par3 {i j l : Nat} {ta : TA} (h : ta σ H (Par3 i j l σ D.nx)) : tPar3 i j l ta D σ H := h

theorem x_var {i : Nat} (e : σ[i]? = some (some v)) (h : Q v H) : tVar i σ H Q := ⟨v, e, h⟩
theorem x_c (h : Q v H) : tC v σ H Q := h
theorem x_op (h : ta σ H fun x H1 => tb σ H1 fun y H2 => r x y H2 Q) : tOp r ta tb σ H Q := h
theorem x_un {r : V → Hp → VK → Prop} (h : ta σ H fun x H1 => r x H1 Q) : tUn r ta σ H Q := h
theorem x_tnil {Q : List V → Hp → Prop} (h : Q [] H) : tNil σ H Q := h
theorem x_tcons {tr : TA} {Q : List V → Hp → Prop} (h : ta σ H fun x H1 => tr σ H1 fun xs H2 => Q (x :: xs) H2) : tCons ta tr σ H Q := h
theorem x_cb {r : List V → Hp → VK → Prop} {ta : TA} (h : ta σ H fun vs H1 => r vs H1 Q) : tCB r ta σ H Q := h
theorem x_call {sp : Sp} {dvs : List V} {E : XK} {ta : TA} (h : ta σ H fun vs H1 => sp (vs ++ dvs) H1 Q E) : tCall sp dvs E ta σ H Q := h
theorem x_callS {sp : Sp} {E : L2.St → XK} {ta : TA} (h : ta σ H fun vs H1 => sp vs H1 Q (E σ)) : tCallS sp E ta σ H Q := h
theorem x_bm {T : String} {r : V → List V → Hp → VK → Prop} {ta : TA} (h : to σ H fun x H1 => tyV K T x H1 ∧ ta σ H1 fun xs H2 => r x xs H2 Q) : tBM K T r to ta σ H Q := h
theorem x_bm0 {T : String} {r : V → List V → Hp → VK → Prop} (h : to σ H fun x H1 => tyV K T x H1 ∧ r x [] H1 Q) : tBM0 K T r to σ H Q := h
theorem tyV_lst {a : Addr} {xs : List V} (h : H a = some (.lst xs)) : tyV K "list" (.ref a) H := .inl ⟨rfl, _, SqL.of h⟩

def TestV (Q : Bool → Hp → Prop) (x : V) (H : Hp) : Prop := ∃ k, x = .bl k ∧ Q k H
theorem TestV.mk {Q : Bool → Hp → Prop} {k : Bool} (h : Q k H) : TestV Q (.bl k) H := ⟨k, rfl, h⟩
theorem x_test {Q : Bool → Hp → Prop} (h : te σ H (TestV Q)) : tTest te σ H Q := h
theorem x_tB {Q : Bool → Hp → Prop} (h : te σ H (TestV Q)) : tB te σ H Q := h
def IfT (b : Bool) (A B : Prop) : Prop := if b = true then A else B
theorem IfT.yes {A B : Prop} (h : A) : IfT true A B := h
theorem IfT.no {A B : Prop} (h : B) : IfT false A B := h
theorem IfT.yesN {A B : Prop} (h : A) : IfT (!false) A B := h
theorem IfT.noN {A B : Prop} (h : B) : IfT (!true) A B := h
theorem IfT.by_ {A B : Prop} {b : Bool} (h1 : b = true → A) (h2 : b = false → B) : IfT b A B := by
  cases b with
  | true => exact h1 rfl
  | false => exact h2 rfl
theorem x_and {Q : Bool → Hp → Prop} (h : t σ H fun c H1 => IfT c (u σ H1 Q) (Q false H1)) : tAnd t u σ H Q := h
theorem x_or {Q : Bool → Hp → Prop} (h : t σ H fun c H1 => IfT c (Q true H1) (u σ H1 Q)) : tOr t u σ H Q := h
def NotQ (Q : Bool → Hp → Prop) (c : Bool) (H : Hp) : Prop := Q (!c) H
theorem NotQ.yes {Q : Bool → Hp → Prop} (h : Q false H) : NotQ Q true H := h
theorem NotQ.no {Q : Bool → Hp → Prop} (h : Q true H) : NotQ Q false H := h
theorem NotQ.any {Q : Bool → Hp → Prop} {c : Bool} (h : Q (!c) H) : NotQ Q c H := h
theorem x_not {Q : Bool → Hp → Prop} (h : t σ H (NotQ Q)) : tNot t σ H Q := h
theorem x_ifE (h : t σ H fun c H1 => IfT c (ta σ H1 Q) (tb σ H1 Q)) : tIf t ta tb σ H Q := h
def AndV (tb : TE) (σ : L2.St) (Q : VK) (x : V) (H : Hp) : Prop := ∃ c, x = .bl c ∧ if c = true then tb σ H Q else Q (.bl false) H
theorem AndV.mk {c : Bool} (h : IfT c (tb σ H Q) (Q (.bl false) H)) : AndV tb σ Q (.bl c) H := ⟨c, rfl, h⟩
theorem x_andV (h : ta σ H (AndV tb σ Q)) : tAndV ta tb σ H Q := h
def OrV (tb : TE) (σ : L2.St) (Q : VK) (x : V) (H : Hp) : Prop := ∃ c, x = .bl c ∧ if c = true then Q (.bl true) H else tb σ H Q
theorem OrV.mk {c : Bool} (h : IfT c (Q (.bl true) H) (tb σ H Q)) : OrV tb σ Q (.bl c) H := ⟨c, rfl, h⟩
theorem x_orV (h : ta σ H (OrV tb σ Q)) : tOrV ta tb σ H Q := h
def NotV (Q : VK) (x : V) (H : Hp) : Prop := ∃ c, x = .bl c ∧ Q (.bl (!c)) H
theorem NotV.mk {c : Bool} (h : Q (.bl (!c)) H) : NotV Q (.bl c) H := ⟨c, rfl, h⟩
theorem x_notV (h : ta σ H (NotV Q)) : tNotV ta σ H Q := h
def Chain (r' : R2) (tc : TE) (σ : L2.St) (Q : VK) (y z : V) (H : Hp) : Prop := ∃ k, z = .bl k ∧ if k = true then tc σ H (fun w H' => r' y w H' Q) else Q (.bl false) H
/-! values -/
theorem x_I0 {f : Int → Int → V} {i j : Int} (h : Q (f i j) H) : rI0 f (.int i) (.int j) H Q := ⟨i, j, rfl, rfl, h⟩
theorem x_I {C : Int → Int → Prop} {f : Int → Int → V} {i j : Int} (hc : C i j) (h : Q (f i j) H) : rI C f (.int i) (.int j) H Q := ⟨i, j, rfl, rfl, hc, h⟩
theorem x_U {f : Int → V} {i : Int} (h : Q (f i) H) : rU f (.int i) H Q := ⟨i, rfl, h⟩
end
end SK
namespace SK
open PySem L2 PyProof.Rows
open PySem.W (Frag)
/-! ## Rules joined: one for each of Python's signs, whatever stands on its sides -/
def rAddStr : R2 := fun x y H Q => ∃ i j, x = .str i ∧ y = .str j ∧ i.length + j.length ≤ sizeLine ∧ Q (.str (i ++ j)) H
def rAddU (K : Frag) : R2 := fun x y H Q => rI0 (fun i j => .int (i + j)) x y H Q ∨ rAddStr x y H Q ∨ rCat x y H Q ∨ rCatA K x y H Q
theorem op_addU {X : Cx} : OpR X (binaryOp .Add) (rAddU X.K) := op_add.or (op_add_str.or (op_cat.or op_catA))
abbrev rSubU : R2 := rI0 fun i j => .int (i - j)
def rMulU : R2 := fun x y H Q => rI CMul (fun i j => .int (i * j)) x y H Q ∨ rRep x y H Q
theorem op_mulU {X : Cx} : OpR X (binaryOp .Mult) rMulU := op_mul.or op_rep
abbrev rModU : R2 := rI (fun _ j => 0 < j) fun i j => .int (i % j)
abbrev rDivU : R2 := rI CDiv fun i j => .int (i / j)
abbrev rPowU : R2 := rI CPow fun i j => .int (i ^ j.toNat)
def rEqU (K : Frag) : R2 := fun x y H Q => rEq x y H Q ∨ rEqD K x y H Q
def rNeU (K : Frag) : R2 := fun x y H Q => rNe x y H Q ∨ rNeD K x y H Q
theorem op_eqU {X : Cx} (hu : X.A.units + 64 < cLine) : OpR X (compareOp .Eq) (rEqU X.K) := op_eq.or (op_eqD hu)
theorem op_neU {X : Cx} (hu : X.A.units + 64 < cLine) : OpR X (compareOp .NotEq) (rNeU X.K) := op_ne.or (op_neD hu)
def rLtStr : R2 := fun x y H Q => ∃ i j, x = .str i ∧ y = .str j ∧ Q (.bl (decide (i.cps.toList < j.cps.toList))) H
def rLtU : R2 := fun x y H Q => rI0 (fun i j => .bl (decide (i < j))) x y H Q ∨ rLtStr x y H Q
theorem op_ltU {X : Cx} : OpR X (compareOp .Lt) rLtU := op_lt.or op_lt_str
abbrev rLeU : R2 := rI0 fun i j => .bl (decide (i ≤ j))
abbrev rGtU : R2 := rI0 fun i j => .bl (decide (j < i))
abbrev rGeU : R2 := rI0 fun i j => .bl (decide (j ≤ i))
def rIsNn : R2 := fun x y H Q => y = .non ∧ Q (.bl (decide (x = .non))) H
def rNotNn : R2 := fun x y H Q => y = .non ∧ Q (.bl (!decide (x = .non))) H
def rIsU : R2 := fun x y H Q => rIsNn x y H Q ∨ rIsB x y H Q
def rNotU : R2 := fun x y H Q => rNotNn x y H Q ∨ rNotB x y H Q
theorem op_isU {X : Cx} : OpR X (compareOp .Is) rIsU := op_isN.or op_isBl
theorem op_notU {X : Cx} : OpR X (compareOp .IsNot) rNotU := op_notN.or op_notBl
def rInU (K : Frag) : R2 := fun x y H Q => rIn K false x y H Q ∨ rInD K x y H Q
def rNotInU (K : Frag) : R2 := fun x y H Q => rIn K true x y H Q ∨ rNotInD K x y H Q
theorem op_inU {X : Cx} (hu : X.A.units + 65 < cLine) : OpR X (compareOp .In) (rInU X.K) := op_in_seq.or (op_inD hu)
theorem op_notInU {X : Cx} (hu : X.A.units + 65 < cLine) : OpR X (compareOp .NotIn) (rNotInU X.K) := op_notIn_seq.or (op_notInD hu)
theorem hu64 {k : Nat} {A : Around} (hr : Room k A) : A.units + 64 < cLine := hr.units
theorem hu65 {k : Nat} {A : Around} (hr : Room k A) : A.units + 65 < cLine := by have := hr.un; omega
def rLenU (K : Frag) : List V → Hp → VK → Prop := fun xs H Q => (∃ p ys, xs = [.ref p] ∧ (SqL K H p ys ∨ SqT K H p ys) ∧ Q (.int ys.length) H) ∨ ∃ z, xs = [.str z] ∧ z.length ≤ sizeLine ∧ Q (.int z.length) H
theorem call_lenU {X : Cx} : CallR X (.builtin "len") (rLenU X.K) := call_len_seq.or call_len_str
def rIntU : List V → Hp → VK → Prop := fun xs H Q => (∃ i, xs = [.int i] ∧ Q (.int i) H) ∨ ∃ k, xs = [.bl k] ∧ Q (.int (if k then 1 else 0)) H
theorem call_intU {X : Cx} : CallR X (.type "int") rIntU := call_int1
def rAbs : List V → Hp → VK → Prop := fun xs H Q => ∃ i, xs = [.int i] ∧ Q (.int (if i < 0 then -i else i)) H
theorem call_absU {X : Cx} : CallR X (.builtin "abs") rAbs := call_abs
def rMax2 : List V → Hp → VK → Prop := fun xs H Q => ∃ i j, xs = [.int i, .int j] ∧ Q (.int (if j > i then j else i)) H
def rMin2 : List V → Hp → VK → Prop := fun xs H Q => ∃ i j, xs = [.int i, .int j] ∧ Q (.int (if j < i then j else i)) H
theorem call_maxU {X : Cx} (hc : X.calm = true) : CallR X (.builtin "max") rMax2 := call_max2 hc
theorem call_minU {X : Cx} (hc : X.calm = true) : CallR X (.builtin "min") rMin2 := call_min2 hc
def rListU (K : Frag) : List V → Hp → VK → Prop := fun xs H Q => ∃ p ys, xs = [.ref p] ∧ (SqL K H p ys ∨ SqT K H p ys) ∧ ∀ l, H l = none → Q (.ref l) (upd H l (.lst ys))
theorem call_listU {X : Cx} : CallR X (.type "list") (rListU X.K) := call_list_of
def rTupleU (K : Frag) : List V → Hp → VK → Prop := fun xs H Q => ∃ p ys, xs = [.ref p] ∧ ((SqL K H p ys ∧ ∀ l, H l = none → Q (.ref l) (upd H l (.tup ys))) ∨ (SqT K H p ys ∧ Q (.ref p) H))
theorem call_tupleU {X : Cx} : CallR X (.type "tuple") (rTupleU X.K) := call_tuple_of
def rIsiU (K : Frag) : List V → Hp → VK → Prop := fun xs H Q => rIsi K xs H Q ∨ rIsiT K xs H Q
theorem call_isiU {X : Cx} : CallR X (.builtin "isinstance") (rIsiU X.K) := call_isi.or call_isiT
def rSlU (K : Frag) : V → Option Int → Option Int → Hp → VK → Prop := fun x lo hi H Q => rSlL K x lo hi H Q ∨ rSlA K x lo hi H Q ∨ rSlS x lo hi H Q
theorem sl_U {X : Cx} : SlR X (rSlU X.K) := sl_list.or (sl_tupA.or sl_str)
/-- a value's truth -/
def tTruth (K : Frag) (ta : TE) : TT := fun σ H Q => ta σ H fun x H' => ∃ k, TruV K x H' k ∧ Q k H'
theorem pt_tr {X : Cx} {a : Expr} {ta : TE} (ha : PE X a ta) (he : ∀ whole, isTrue a X.env whole = (do let v ← whole; standAt a.pos; holding [v] (truthy v)) := by intro _; rfl) : PT X a (tTruth X.K ta) := pt_truth ha he
/-- a for over a list, or over a tuple -/
def SeqIt (K : Frag) (R : It → Hp → Prop) (x : V) (H : Hp) : Prop := (∃ a, x = .ref a ∧ (∃ xs, SqL K H a xs) ∧ R (Itl K a) H) ∨ ∃ a, x = .ref a ∧ (∃ xs, SqT K H a xs) ∧ R (Itt K a) H
def iSeq (K : Frag) (tl : TE) : TI := fun σ H R => tl σ H (SeqIt K R)
theorem iter_seq {K : Frag} {X : Cx} {tg : Expr} {pins : List (Addr × Obj)} {σ : L2.St} {R : It → Hp → Prop} {x : V} {v : Value} {H1 : Hp} {s1 : Shared} (J : Inv X pins σ H1 s1) (rv : RelV x v) (q : SeqIt K R x H1) (hK : K = X.K := by rfl) :
    wpAny (model X.prog X.w) X.A (pyIter v) (PIE X pins σ tg R) X.xe s1 := by
  subst hK
  have fp : ∀ b ∈ [s1.heap.objs.size], FpOk X pins H1 b := by
    intro b hb
    rw [List.mem_singleton.mp hb]
    exact J.fpOk (Nat.le_refl _) J.fresh
  have kp : ∀ {ob : Obj} (b : Addr) (o : Obj), s1.heap.get? b = some o → (s1.heap.push ob).get? b = some o := fun b o e => Heap.get?_push_of_some _ e
  rcases q with ⟨a, rfl, ⟨xs, h⟩, r⟩ | ⟨a, rfl, ⟨xs, h⟩, r⟩
  · obtain rfl : v = Value.ref a := rv
    obtain ⟨us, _, pl, _⟩ := J.list h
    exact wpAny_pyIter_list pl.isList ⟨_, [s1.heap.objs.size], _, _, H1, rfl, J.kept (t' := s1.toks) kp, turn_list a _, ⟨_, Heap.get?_push_size _ rfl, rfl, rfl⟩, fp, r⟩
  · obtain rfl : v = Value.ref a := rv
    obtain ⟨us, _, pt, _⟩ := J.tuple h
    exact wpAny_pyIter_tuple (show s1.heap.IsTuple a us.toArray from pt) ⟨_, [s1.heap.objs.size], _, _, H1, rfl, J.kept (t' := s1.toks) kp, turn_tuple a _, ⟨_, Heap.get?_push_size _ rfl, rfl, rfl⟩, fp, r⟩
theorem pi_seq {X : Cx} {tg l : Expr} {tl : TE} (hl : PE X l tl) : PI X tg l (iSeq X.K tl) :=
  ⟨fun pins s σ H _ J h => thn (hl.run pins s σ H _ J h) fun _ _ ⟨_, _, J1, rv, q⟩ => iter_seq J1 rv q⟩
end SK
/-! # Own errors with one field, over Exception, and a try with several clauses that keep the error by a name -/
namespace SE
open PySem PySem.W PySem.Calls PyProof.Rows PySem.HandSPX Builtin Builtin.ObjectAttr
abbrev tailE : List Value := [.type "Exception", .type "BaseException", .type "object"]
def iA (f : Str) (p1 p2 : Pos) : Arguments := { posonlyargs := [], args := [{ arg := "self", annotation := none, pos := p1 }, { arg := f, annotation := none, pos := p2 }], vararg := none, kwonlyargs := [], kw_defaults := [], kwarg := none, defaults := [] }
def iB (f : Str) (q1 q2 q3 q4 : Pos) : List Stmt := [.Assign [.Attribute (.Name "self" q1) f q2] (.Name f q3) q4]
def iS (f : Str) : Scope := { kind := .function, names := [(PySem.Str.ofString "self", .local), (f, .local)], isGenerator := false, isCoroutine := false, more := [] }
/-- what the written part says of an error's class, at C, and of its __init__, at fI; f its field -/
structure ErrC (K : Frag) (mg : Str → Option Value) (nm q f : Str) (C fI : Addr) : Prop where
  gC : mg nm = some (.ref C)
  ini : excInitIn K C tailE "Exception.__new__" = true
  ov : excOver K C tailE = true
  sa : findIn K (.ref C) "__setattr__" = some (some (.builtin "object.__setattr__"))
  ga : findIn K (.ref C) "__getattribute__" = some (some (.builtin "BaseException.__getattribute__"))
  gg : findIn K (.ref C) "__getattr__" = some none
  noN : findIn K (.ref C) f = some none
  iC : findIn K (.ref C) "__init__" = some (some (.ref fI))
  tC : typeIn K (.ref fI) = some (.type "function")
  kC : keepIn K (.ref C) = true
  exC : subIn K (.ref C) (.type "BaseException") = some true
  tyC : typeIn K (.ref C) = some (.type "type")
  hdC : hasDictIn K C = true
  te : exmOne K (.ref C) (.ref C) = some true
  fn : ∃ (oc : Value) (od : Option Addr) (doc pm : Value) (an : Option Addr) (cdv ct : Value) (osl : Array (Option Value)) (p1 p2 q1 q2 q3 q4 : Pos),
    K.lookup fI = some ⟨oc, od, .func (fnOf "__init__" q (iA f p1 p2) (iB f q1 q2 q3 q4) (iS f) .none .none doc pm an cdv ct), osl⟩ ∧ codeIn K cdv q = true
structure Named (f : Str) : Prop where
  ns : ¬ f = "self"
  nd : (f == ("__debug__" : Str)) = false
  nc : (f == ("__classdict__" : Str)) = false
  bind : ∀ (q : Str) (p1 p2 q1 q2 q3 q4 : Pos) (doc pm : Value) (an : Option Addr) (cdv ct : Value) (x v : Value),
    bindArgs (fnOf "__init__" q (iA f p1 p2) (iB f q1 q2 q3 q4) (iS f) .none .none doc pm an cdv ct) ⟨[x, v], []⟩ = pure [(("self" : Str), x), (f, v)]
  kind : ∀ (x v : Value), (([(("self" : Str), x), (f, v)]).all fun y => (iS f).names.lookup y.1 == some .local || (iS f).names.lookup y.1 == some .cell) = true
  look : (iS f).names.lookup f = some .local
  lookS : (iS f).names.lookup ("self" : Str) = some .local
  swap : ∀ (q : Str) (n : Nat) (fI : Addr) (cdv : Value) (q1 q2 q3 q4 : Pos), swapsWith (.Name f q3) (some (.Attribute (.Name "self" q1) f q2)) q4.line (envOfC q (iS f) n fI cdv) = pure false
theorem named_given : Named "given" := ⟨by decide +kernel, by decide +kernel, by decide +kernel, fun _ _ _ _ _ _ _ _ _ _ _ _ _ _ => rfl, fun _ _ => by rfl, by decide +kernel, by decide +kernel, fun _ _ _ _ _ _ _ _ => rfl⟩
theorem named_ring : Named "ring" := ⟨by decide +kernel, by decide +kernel, by decide +kernel, fun _ _ _ _ _ _ _ _ _ _ _ _ _ _ => rfl, fun _ _ => by rfl, by decide +kernel, by decide +kernel, fun _ _ _ _ _ _ _ _ => rfl⟩
theorem named_count : Named "count" := ⟨by decide +kernel, by decide +kernel, by decide +kernel, fun _ _ _ _ _ _ _ _ _ _ _ _ _ _ => rfl, fun _ _ => by rfl, by decide +kernel, by decide +kernel, fun _ _ _ _ _ _ _ _ => rfl⟩
theorem named_number : Named "number" := ⟨by decide +kernel, by decide +kernel, by decide +kernel, fun _ _ _ _ _ _ _ _ _ _ _ _ _ _ => rfl, fun _ _ => by rfl, by decide +kernel, by decide +kernel, fun _ _ _ _ _ _ _ _ => rfl⟩
theorem ldF {M : Model} {s : Shared} {name : Str} {scope : Scope} {L a : Addr} {cd : Value} {m : Str → Option Value} {x : Str} {pos : Pos} {v : Value} {Q : Value → Shared → Prop} {A : Around} {E : Value → Shared → Prop} (hn : s.heap.Ns L m) (hv : m x = some v) (h : Q v s)
    (hk : scope.kind = .function) (hl : (envOfC name scope L a cd).kindOf x = some .local) (hd : (x == ("__debug__" : Str)) = false) :
    wpAny M A (eval (.Name x pos) (envOfC name scope L a cd)) Q E s := wpAny_Name (wpAny_loadName_local hk hl hn hv h) hd
/-- what __init__ leaves of a fresh error at x -/
structure InitEnd (f : Str) (h h' : Heap) (x C dx t1 : Addr) (v : Value) : Prop where
  keep : ∀ b o, b ≠ x → h.get? b = some o → h'.get? b = some o
  obj : h'.get? x = some { cls := .ref C, dict := some dx, data := .fields #[.ref t1, .none, .none, .none, .bool false, .none] }
  dbig : h.objs.size ≤ dx
  dne : dx ≠ x
  ns : h'.Ns1 dx (fun y => if y = f then some v else none)
/-- a made error -/
structure ErrMade (f : Str) (h h' : Heap) (e C d : Addr) (v : Value) : Prop where
  keep : ∀ b o, h.get? b = some o → h'.get? b = some o
  new : h.objs.size ≤ e
  obj : ∃ oe vs, h'.get? e = some oe ∧ oe.cls = .ref C ∧ oe.dict = some d ∧ oe.data = .fields vs ∧ vs[1]? = some .none
  dbig : h.objs.size ≤ d
  dne : d ≠ e
  ns : h'.Ns1 d (fun y => if y = f then some v else none)
section
variable {prog : Program} {w : World} {A : Around} {E : Value → Shared → Prop} {R : Result → Shared → Prop} {s : Shared} {K : Frag} {mg : Str → Option Value} {nm q f : Str} {C fI : Addr}
/-- the store of the first field of an error without a dict -/
theorem store_first {x : Addr} {tk : Tok} {v : Value} {fv : Array Value} (T : ErrC K mg nm q f C fI) (X : K.In s.heap) (hx : s.heap.get? x = some { cls := .ref C, data := .fields fv })
    (hq : ∀ h' tk' dx, (∀ b o, b ≠ x → s.heap.get? b = some o → h'.get? b = some o) → s.heap.objs.size ≤ dx → dx ≠ x → h'.get? x = some { cls := .ref C, dict := some dx, data := .fields fv } →
      h'.Ns1 dx (fun y => if y = f then some v else none) → R (.ok (.ret .none)) { s with heap := h', toks := tk' }) :
    codeAny (model prog w) A (.call (.builtin "object.__setattr__") ⟨[.ref x, .str f tk, v], []⟩) R s := by
  obtain ⟨cd, hcd, _⟩ := any_some T.ov
  have hdd : cd.hasDict = true := by
    obtain ⟨cd', e1, e2⟩ := any_some T.hdC
    rw [hcd] at e1; cases e1; exact e2
  have tk0 : takerIn K C f = some none := by unfold takerIn; rw [T.noN]; rfl
  have LC : W.Looks (model prog w) s.heap (classData C) cd := W.looks_clsIn X hcd
  refine osa_openX (od := none) F.store_Exception X ⟨hx, rfl, rfl, trivial⟩ T.ov tk0 fun b => ?_
  have apart : x ≠ s.heap.objs.size := Nat.ne_of_lt (Heap.lt_size hx)
  obtain ⟨hp, g, d, t, os⟩ := s
  obtain ⟨c1, c2, c3, c4, c5, c6, c7, c8, c9, c10, c11⟩ := cd
  have e6 : c6 = true := hdd
  subst e6
  show wpAny _ _ (storeInOwnDict (.ref x) (.ref C) (.str f tk) f v b) _ _ _
  unfold storeInOwnDict ownDictForStores
  repeat
    first
      | with_reducible refine HandSPX.store_in_new ?_ ?_
      | with_reducible refine wpAny_loadPart_at hx ?_
      | with_reducible refine LC.at ?_
      | wp_step
  · have z := Heap.get?_push_at (h := hp) (o := { cls := .type "dict", data := .dict #[] }) rfl rfl
    exact ⟨_, #[], _, (Heap.get?_update_ne _ _ _ _ apart.symm).trans z, rfl, fun e he => absurd he (by simp), fun _ => rfl⟩
  · intro h' tk' hn' hs
    have old : (hp.push { cls := .type "dict", data := .dict #[] }).get? x = some { cls := .ref C, data := .fields fv } := Heap.get?_push_of_some _ hx
    refine hq h' tk' hp.objs.size (fun b o hb ho => ?_) (Nat.le_refl _) apart.symm ?_ hn'
    · have z1 := hs.2 b (Nat.ne_of_lt (Heap.lt_size ho))
      exact z1.trans ((Heap.get?_update_ne _ _ _ _ hb).trans (Heap.get?_push_of_some _ ho))
    · have z2 := hs.2 x apart
      exact z2.trans (Heap.get?_update_self _ old rfl)
theorem err_init (T : ErrC K mg nm q f C fI) (nf : Named f) {x t0 : Addr} {v : Value} (X : K.In s.heap) (hlim : s.heap.NoLimit) (hx : s.heap.get? x = some (excO C t0)) (hroom : A.depth < recursionLimit)
    (hq : ∀ h' tk dx, InitEnd f s.heap h' x C dx t0 v → R (.ok (.ret .none)) { s with heap := h', toks := tk }) :
    codeAny (model prog w) A (.call (.ref fI) ⟨[.ref x, v], []⟩) R s := by
  obtain ⟨oc, od, doc, pm, an, cdv, ct, osl, p1, p2, q1, q2, q3, q4, ho, hcd⟩ := T.fn
  refine Att.call_fn (binds := [(("self" : Str), .ref x), (f, v)]) X hlim ho hcd hroom (BindsTo.of_eq (nf.bind _ _ _ _ _ _ _ _ _ _ _ _ _ _)) (nf.kind _ _) (fun s₁ IC => ?_) rfl rfl rfl
  obtain ⟨h₁, tk₁, rfl⟩ := IC.toInCall.same
  have k : ∀ b o, s.heap.get? b = some o → h₁.get? b = some o := IC.toInCall.keep
  have hn := IC.toInCall.ns
  have X₁ : K.In h₁ := X.keeps k
  have hx₁ := k _ _ hx
  have ks : (envOfC q (iS f) s.heap.objs.size fI cdv).kindOf ("self" : Str) = some .local := nf.lookS
  have kf : (envOfC q (iS f) s.heap.objs.size fI cdv).kindOf f = some .local := nf.look
  show wpAny _ _ (execs _ _) _ _ _
  refine wpAny_execs_cons (plainObj_wpAny_Assign_Attribute ?_ (nf.swap _ _ _ _ _ _ _ _))
  refine ldF (v := v) hn ?_ (ldF (v := .ref x) hn ?_ ?_ rfl ks (by decide +kernel)) rfl kf nf.nd
  · unfold bindL bindL bindL
    rw [ks, kf]
    simp
  · unfold bindL bindL bindL
    rw [ks, kf]
    simp [Ne.symm nf.ns, nf.ns]
  · refine set_plain X₁ (ox := excO C t0) (od := none) ⟨hx₁, rfl, rfl, trivial⟩ T.sa ?_
    refine store_first T X₁ hx₁ fun h₃ tk₃ dx k₃ dn dne hx₃ hn₃ => ?_
    show wpAny _ _ (execs _ _) _ _ _
    have z : s.heap.objs.size < h₁.objs.size := hn.lt
    exact wpAny_execs_nil (hq h₃ tk₃ dx ⟨fun b o hb e => k₃ b o hb (k b o e), hx₃, Nat.le_of_lt (Nat.lt_of_lt_of_le z dn), dne, hn₃⟩)
theorem err_made (T : ErrC K mg nm q f C fI) (nf : Named f) {v : Value} (X : K.In s.heap) (hlim : s.heap.NoLimit) (hroom : A.depth + 1 < recursionLimit)
    (hq : ∀ h' tk e d, ErrMade f s.heap h' e C d v → R (.ok (.ret (.ref e))) { s with heap := h', toks := tk }) :
    codeAny (model prog w) A (.call (.ref C) ⟨[v], []⟩) R s := by
  obtain ⟨nm', N', qn, bs, bm, hdct, sn, sub, ab, col, dd, k0, k1, k2, k3, k5, hC, hT⟩ := excInit_of X T.ini
  obtain ⟨hp, g, dr, tk, os⟩ := s
  have k : ∀ b o, hp.get? b = some o → ((hp.push (kdv_tup [v])).push (excO C hp.objs.size)).get? b = some o := fun b o e => Heap.get?_push_of_some _ (Heap.get?_push_of_some _ e)
  have hget : ((hp.push (kdv_tup [v])).push (excO C hp.objs.size)).get? (hp.objs.size + 1) = some (excO C hp.objs.size) := by heap_get
  have one : [v].length ≤ sizeLine := by rw [sizeLine_eq]; exact (by decide : 1 ≤ 16777216)
  refine HandSPX.call_own F.excBase_Exception hT hC (looks_findIn X T.iC) (fun self => bind_fn X self T.tC) one ?_
  refine err_init (s := ⟨(hp.push (kdv_tup [v])).push (excO C hp.objs.size), g, dr, tk, os⟩) T nf (X.keeps k) (hlim.keeps k) hget ?_ fun h' tk' dx ⟨k', hx, dn, dne, hns⟩ => ?_
  · show A.depth + 1 < recursionLimit
    exact hroom
  · have old : ∀ b o, hp.get? b = some o → h'.get? b = some o := fun b o e => k' b o (Nat.ne_of_lt (Nat.lt_succ_of_lt (Heap.lt_size e))) (k b o e)
    have z : hp.objs.size + 1 + 1 ≤ dx := by
      have q := dn
      simp only [Heap.size_push] at q
      exact q
    exact ⟨rfl, hq h' tk' (hp.objs.size + 1) dx ⟨old, Nat.le_succ _, ⟨_, _, hx, rfl, rfl, rfl, rfl⟩, Nat.le_trans (Nat.le_trans (Nat.le_succ _) (Nat.le_succ _)) z, dne, hns⟩⟩
end
end SE
namespace SK
open PySem L2 PyProof.Rows
open PySem.W (Frag)
theorem relO_one {f : Str} {v : V} {v' : Value} (r : RelV v v') (y : Str) : RelO (List.lookup y [(f, v)]) (if y = f then some v' else none) := by
  by_cases hw : y = f
  · subst hw
    rw [if_pos rfl]
    have q : List.lookup y [(y, v)] = some v := by simp [List.lookup]
    rw [q]
    exact r
  · rw [if_neg hw]
    have qw : (y == f) = false := by simpa using hw
    have q2 : List.lookup y [(f, v)] = none := by simp [List.lookup, qw]
    rw [q2]
    trivial
section
variable {X : Cx} {C fI : Addr} {nm q f : Str}
/-- E(e): the error's class, its own dict -/
def tMkE (C : Addr) (f : Str) (ta : TA) : L2.St → Hp → XK → Prop := fun σ H Q => ta σ H fun vs H1 => ∃ v, vs = [v] ∧ ∀ d, H1 d = none → Q (.ref C) (some d) (upd H1 d (.xd [(f, v)]))
theorem pmk_err {a : Expr} {ta : TA} {p pos : Pos} {k : Nat} (T : SE.ErrC X.K X.mg nm q f C fI) (nf : SE.Named f) (hr : Room k X.A) (ha : PA X [a] ta) (hg : Gl X nm := by rfl) (hdb : (nm == ("__debug__" : Str)) = false := by decide)
    (he : starEach (a :: []) X.env = (false, eval a X.env) :: starEach [] X.env := by rfl) (hpl : (backTo pos (starEach [] X.env)).any (·.1) = false := by rfl) :
    PMk X (.Call (.Name nm p) [a] [] pos) (tMkE C f ta) := by
  intro pins s σ H Q I h
  refine wpAny_Call_Name_kw (ld_glob I hg T.gC ?_ hdb)
  refine PySem.W.callWith_K (h₀ := X.base) I.ok.mod.kin T.kC (thn (ha.run pos pins s σ H _ I h) fun us s1 hh => ?_) he hpl
  obtain ⟨vs, H1, I1, r1, v, ev, q1⟩ := hh
  subst ev
  refine ⟨I1.kIn, ?_⟩
  cases r1 with
  | cons rv rn =>
    rename_i v' us'
    cases rn
    show wpAny _ _ (call (.ref C) [v']) _ _ _
    have hlim := I1.nolimit
    obtain ⟨hp, g, dr, tk, os⟩ := s1
    refine wpAny_call (SE.err_made T nf I1.kIn hlim (by have := hr.dp; omega) fun h' tk' e d M => ?_)
    show MkP X pins σ Q (.ref e) ⟨h', g, dr, tk', os⟩
    obtain ⟨oe, fv, hoe, hc, hd, hdat, h1⟩ := M.obj
    have hns := M.ns
    obtain ⟨G', g1, g2⟩ := restrict h' fun b => decide (b ≠ e)
    have gk : ∀ b, b ≠ e → G'.get? b = h'.get? b := fun b hb => g1 b (decide_eq_true hb)
    have ge : G'.get? e = none := g2 e (by simp)
    have old : ∀ b o, hp.get? b = some o → G'.get? b = some o := fun b o q => (gk b (Nat.ne_of_lt (Nat.lt_of_lt_of_le (Heap.lt_size q) M.new))).trans (M.keep b o q)
    have ob : ObjOk X.prog X.w (upd H1 d (.xd [(f, v)])) G' d (.xd [(f, v)]) :=
      ⟨_, hns.at (fun o q => (gk d M.dne).trans q), fun y => relO_one rv y⟩
    have J : Inv X pins σ (upd H1 d (.xd [(f, v)])) ⟨G', g, dr, tk', os⟩ := I1.laid (t' := tk') old M.dbig ob
    refine ⟨e, oe, fv, ⟨G', g, dr, tk', os⟩, _, .ref C, some d, rfl, J, fun b o q => ?_, ge, hoe, ⟨hc, hd⟩, hdat, h1, ?_, rfl, I1.bare, raises_own T.exC T.tyC, q1 d (I1.hok.fresh M.dbig)⟩
    · by_cases hb : b = e
      · have q' : G'.get? b = some o := q
        rw [hb, ge] at q'; cases q'
      · exact (gk b hb).symm.trans q
    · rw [upd_ne (Ne.symm M.dne)]
      exact I1.hok.fresh M.new
/-- raise E(e) -/
def tRaiseE (C : Addr) (f : Str) (W : WX) (ta : TA) : TS := fun _ σ H => tMkE C f ta σ H fun cls d H' => W cls d σ H'
theorem ps_raiseE {a : Expr} {ta : TA} {W : WX} {p pos pos2 : Pos} {k : Nat} (hc : X.calm = true) (T : SE.ErrC X.K X.mg nm q f C fI) (nf : SE.Named f) (hr : Room k X.A) (tk : Takes X W) (ha : PA X [a] ta) (hg : Gl X nm := by rfl) (hdb : (nm == ("__debug__" : Str)) = false := by decide)
    (he : starEach (a :: []) X.env = (false, eval a X.env) :: starEach [] X.env := by rfl) (hpl : (backTo pos (starEach [] X.env)).any (·.1) = false := by rfl) :
    PS X (.Raise (some (.Call (.Name nm p) [a] [] pos)) none pos2) (tRaiseE C f W ta) := ps_raise hc tk (pmk_err T nf hr ha hg hdb he hpl)
/-- e.f in a suite that holds the error by a name -/
theorem ErrC.xf {K : Frag} {mg : Str → Option Value} (T : SE.ErrC K mg nm q f C fI) : XfC K C := ⟨T.ga, T.gg, T.exC, T.hdC⟩
end

/-! ### several clauses, each with a name -/
/-- one clause: the class, the name's slot if it has one, the suite's reading -/
structure Cl where
  c : Value
  i : Option Nat
  ts : Addr → Value → Option Addr → TS
/-- the ends of a suite whose error stands in slot i -/
def gone (i : Nat) (D : Ends) : Ends := { nx := fun σ' H' => D.nx (σ'.set i none) H', rt := D.rt, bk := fun σ' H' => D.bk (σ'.set i none) H', ct := fun σ' H' => D.ct (σ'.set i none) H' }
/-- what is wished of an error of the body -/
def wCls (K : Frag) (Wout : WX) (D : Ends) : List Cl → WX
  | [] => Wout
  | ⟨c, none, ts⟩ :: r => fun cls d σ H => ∃ b, PySem.W.exmOne K cls c = some b ∧ (b = true → ∀ a, H a = none → ts a cls d D σ H) ∧ (b = false → wCls K Wout D r cls d σ H)
  | ⟨c, some i, ts⟩ :: r => fun cls d σ H => ∃ b, PySem.W.exmOne K cls c = some b ∧ (b = true → ∀ a, H a = none → ts a cls d (gone i D) (σ.set i (some (.ref a))) H) ∧ (b = false → wCls K Wout D r cls d σ H)
inductive ClsOk (X : Cx) : List ExceptHandler → List Cl → Prop
  | nil : ClsOk X [] []
  | plain {x : Str} {c : Value} {ts : Addr → Value → Option Addr → TS} {b₀ : Stmt} {suite : List Stmt} {np pos' : Pos} {hds : List ExceptHandler} {l : List Cl} (hc : Names X x c)
      (hsu : ∀ (a : Addr) (oe : Obj) (cls : Value) (d : Option Addr) (pn : List (Addr × Obj)), Zc cls d oe → (∃ vs, oe.data = .fields vs) → PSs (X.suite a ((a, oe) :: pn)) (b₀ :: suite) (ts a cls d)) (r : ClsOk X hds l) :
      ClsOk X (.ExceptHandler (some (.Name x np)) none (b₀ :: suite) pos' :: hds) (⟨c, none, ts⟩ :: l)
  | named {x n : Str} {i : Nat} {c : Value} {ts : Addr → Value → Option Addr → TS} {b₀ : Stmt} {suite : List Stmt} {np pos' : Pos} {hds : List ExceptHandler} {l : List Cl} (hi : X.N[i]? = some n) (hln : X.env.kindOf n = some .local) (hc : Names X x c)
      (hsu : ∀ (a : Addr) (oe : Obj) (cls : Value) (d : Option Addr) (pn : List (Addr × Obj)), Zc cls d oe → (∃ vs, oe.data = .fields vs) → PSs (X.suite a ((a, oe) :: pn)) (b₀ :: suite) (ts a cls d)) (r : ClsOk X hds l) :
      ClsOk X (.ExceptHandler (some (.Name x np)) (some n) (b₀ :: suite) pos' :: hds) (⟨c, some i, ts⟩ :: l)
section
variable {X : Cx} {body : List Stmt} {h₀ : ExceptHandler} {hds : List ExceptHandler} {l : List Cl} {pos : Pos} {tb : WX → TS} {Wout : WX}
theorem PSs.out {pins : List (Addr × Obj)} {D : Ends} {xe : Value → Shared → Prop} {pn : List (Addr × Obj)} {fl : Flow} {s1 : Shared} (ok : X.Ok) (h : SP (X.tr (X.pn ++ pins) xe) pn D fl s1) : SP X pins D fl s1 := by
  cases fl with
  | next => obtain ⟨σ', H', J, z⟩ := h; exact ⟨σ', H', J.ofTry ok, z⟩
  | brk => obtain ⟨σ', H', J, z⟩ := h; exact ⟨σ', H', J.ofTry ok, z⟩
  | cont => obtain ⟨σ', H', J, z⟩ := h; exact ⟨σ', H', J.ofTry ok, z⟩
  | ret u => obtain ⟨v, σ', H', J, r, z⟩ := h; exact ⟨v, σ', H', J.ofTry ok, r, z⟩
theorem ps_try_cls (hs : X.stack = X.env :: X.outer) (hf : X.env.frame = some X.env.locals) (hN : X.N.Nodup) (tk : Takes X Wout)
    (hb : ∀ (W : WX) (pn : List (Addr × Obj)) (xe : Value → Shared → Prop), Takes (X.tr pn xe) W → PassesOwn (model X.prog X.w) X.A X.env xe → PSs (X.tr pn xe) body (tb W))
    (hh : ClsOk X (h₀ :: hds) l) : PS X (.Try body (h₀ :: hds) [] [] pos) (fun D σ H => tb (wCls X.K Wout D l) D σ H) := by
  refine ⟨fun pins s σ H D J0 q0 => ?_⟩
  have ok := J0.ok
  have frames : X.A.frames = some (X.env :: X.outer) := ok.frames.trans (by rw [hs])
  refine wpAny_Try_except ?_
  have walk := hb (wCls X.K Wout D l) (X.pn ++ pins)
    (fun e s₁ => wpAny (model X.prog X.w) X.A (noteFrame e X.env)
      (fun _ s₂ => wpAny (model X.prog X.w) X.A (setFlight e none)
        (fun _ s₃ => wpAny (model X.prog X.w) X.A (handleBy e X.env (h₀ :: hds)) (SP X pins D) X.xe s₃) X.xe s₂) X.xe s₁) ?_ PassesOwn.looking
  · refine wpAny_mono (walk.run [] s σ H D (J0.toTry _) q0) (fun fl s1 z => ?_) (fun e s1 z => z)
    have z' := PSs.out ok z
    cases fl with
    | next => exact wpAny_execs_nil z'
    | brk => exact z'
    | cont => exact z'
    | ret u => exact z'
  · -- an error comes
    rintro u s' ⟨a, B, sI, pins', σ', H', cls, d, rfl, J1, nb, up, sky, na, os, ag, wish⟩
    have J : Inv X pins σ' H' sI := J1.ofTry ok
    have sky1 : Sky B (X.env :: X.outer) a (Zc cls d) X.env.locals s'.heap := hs ▸ sky
    show wpAny (model X.prog X.w) X.A (noteFrame (.ref a) X.env) _ _ _
    refine Sky.land Zc.steady frames hf sky1 fun h3 fl3 up3 => ?_
    have J3 : Inv X pins σ' H' { s' with heap := h3 } := J.landed nb fl3.1 (up.trans up3) os ag
    obtain ⟨oe3, vs3, he3, hz3, hd3⟩ := fl3.there
    have off : a ∉ frs (X.env :: X.outer) := fun hm => by
      obtain ⟨_, o', e', hnf⟩ := fl3.2.2.1.mem hm
      rw [he3] at e'; cases e'
      exact hnf _ hd3
    have nL : a ≠ X.env.locals := fun z => off (List.mem_filterMap.mpr ⟨X.env, List.mem_cons_self, by rw [hf, z]⟩)
    have nF : a ∉ X.fs := fun hm => by
      obtain ⟨e, he, q⟩ := List.mem_filterMap.mp hm
      exact off (List.mem_filterMap.mpr ⟨e, List.mem_cons_of_mem _ he, q⟩)
    have S3 := J3.suite he3 hd3 na nL nF
    -- a clause's class is evaluated
    have reads : ∀ {x : Str} {c : Value} {np : Pos} {Q : Value → Shared → Prop} {E : Value → Shared → Prop}, Names X x c → Q c { s' with heap := h3 } → wpAny (model X.prog X.w) (X.A.mark (some (.ref a))) (eval (.Name x np) X.env) Q E { s' with heap := h3 } := by
      rintro x c np Q E ⟨hg, hdb, hm | ⟨hm, hv, hn⟩⟩ q
      · exact ld_glob (X := X.suite a ((a, oe3) :: (X.pn ++ pins))) S3 hg hm q hdb
      · exact ld_blt (X := X.suite a ((a, oe3) :: (X.pn ++ pins))) S3 hg hm hv q hn hdb
    have tyA : PySem.W.Looks (model X.prog X.w) h3 (typeOf (.ref a)) cls := fun A Q E s k q => wpAny_typeOf_ref (k _ _ he3) (by rw [hz3.1]; exact q)
    suffices go : ∀ {hd' : List ExceptHandler} {l' : List Cl}, ClsOk X hd' l' → wCls X.K Wout D l' cls d σ' H' →
        wpAny (model X.prog X.w) X.A (handleBy (.ref a) X.env hd') (SP X pins D) X.xe { s' with heap := h3 } from go hh wish
    intro hd' l' hk
    induction hk with
    | nil =>
      intro z
      refine wpAny_handleBy_nil ?_
      obtain ⟨_, _, _, oe, vs, T, oT, _, he, _, hd, h1, _⟩ := id fl3
      unfold PySem.passOn
      refine wpAny_bind (wpAny_field he hd h1 ?_)
      rw [if_neg (show ¬ ((Value.ref T == Value.none) = true) from by simp)]
      have fin : wpAny (model X.prog X.w) X.A (setFlight (.ref a) X.env.frame)
          (fun _ s4 => wpAny (model X.prog X.w) X.A (throw (.ref a) : Sem Flow) (SP X pins D) X.xe s4) X.xe { s' with heap := h3 } := by
        rw [hf]
        refine HandSPX.setFlight_upZ fl3 fun h4 hh4 up4 => wpAny_throw (tk _ _ ?_)
        have sk : Sky B X.stack a (Zc cls d) X.env.locals h4 := .inr (.inr (by rw [hs]; exact hh4))
        exact ⟨a, B, sI, pins, σ', H', cls, d, rfl, J, nb, (up.trans up3).trans up4, sk, na, os, ag, z⟩
      first
        | exact wpAny_bind (wpAny_pure (wpAny_bind fin))
        | exact wpAny_bind fin
    | plain hc hsu r ih =>
      rintro ⟨b, hb1, yes, no⟩
      refine wpAny_handleBy_cons (codeAny_handlers_test (reads hc ((PySem.W.exm_one (M := model X.prog X.w) J3.kIn tyA hb1).here ?_))) (by intro q; cases q)
      cases b with
      | false => exact ih (no rfl)
      | true =>
        refine codeAny_handlers_suite (HandSPX.lands_againZ fl3 fun h4 fl4 up4 => ?_)
        have J4 : Inv X pins σ' H' { s' with heap := h4 } := J.landed nb fl4.1 ((up.trans up3).trans up4) os ag
        obtain ⟨oe4, vs4, he4, hz4, hd4⟩ := fl4.there
        have S4 := J4.suite he4 hd4 na nL nF
        refine wpAny_mono ((hsu a oe4 cls d (X.pn ++ pins) hz4 ⟨_, hd4⟩).run [] _ _ H' _ S4 (yes rfl a na)) (fun fl s6 z => ?_) (fun _ _ z => False.elim z)
        cases fl with
        | next => obtain ⟨_, _, S6, q6⟩ := z; exact ⟨_, _, S6.unsuite ok, q6⟩
        | brk => obtain ⟨_, _, S6, q6⟩ := z; exact ⟨_, _, S6.unsuite ok, q6⟩
        | cont => obtain ⟨_, _, S6, q6⟩ := z; exact ⟨_, _, S6.unsuite ok, q6⟩
        | ret u => obtain ⟨_, _, _, S6, r6, q6⟩ := z; exact ⟨_, _, _, S6.unsuite ok, r6, q6⟩
    | @named x n i c ts b₀ suite np pos' hds2 l2 hi hln hc hsu r ih =>
      rintro ⟨b, hb1, yes, no⟩
      refine wpAny_handleBy_cons (codeAny_handlers_test (reads hc ((PySem.W.exm_one (M := model X.prog X.w) J3.kIn tyA hb1).here ?_))) (by intro q; cases q)
      cases b with
      | false => exact ih (no rfl)
      | true =>
        refine codeAny_handlers_suite_as (HandSPX.lands_againZ fl3 fun h4 fl4 up4 => ?_)
        have J4 : Inv X pins σ' H' { s' with heap := h4 } := J.landed nb fl4.1 ((up.trans up3).trans up4) os ag
        obtain ⟨oe4, vs4, he4, hz4, hd4⟩ := fl4.there
        have S4 := J4.suite he4 hd4 na nL nF
        refine store_ok (X := X.suite a ((a, oe4) :: (X.pn ++ pins))) (v := .ref a) S4 hN hi (.inl hln) rfl (fun s5 S5 => ?_) (.inr hln)
        refine wpAny_mono ((hsu a oe4 cls d (X.pn ++ pins) hz4 ⟨_, hd4⟩).run [] s5 _ H' _ S5 (yes rfl a na)) (fun fl s6 z => ?_) (fun _ _ z => False.elim z)
        have goes : ∀ {σ6 : L2.St} {H6 : Hp} {Q : Shared → Prop}, Inv (X.suite a ((a, oe4) :: (X.pn ++ pins))) [] σ6 H6 s6 → (∀ s7, Inv X pins (σ6.set i none) H6 s7 → Q s7) →
            wpAny (model X.prog X.w) X.A (do bindName X.env n .none; unbindBehindTheSuite X.env n pos') (fun _ s7 => Q s7) X.xe s6 := fun S6 hq => gone_ok (S6.unsuite ok) hN hi hln hq
        cases fl with
        | next => obtain ⟨_, _, S6, q6⟩ := z; exact goes S6 fun s7 J7 => ⟨_, _, J7, q6⟩
        | brk => obtain ⟨_, _, S6, q6⟩ := z; exact goes S6 fun s7 J7 => ⟨_, _, J7, q6⟩
        | cont => obtain ⟨_, _, S6, q6⟩ := z; exact goes S6 fun s7 J7 => ⟨_, _, J7, q6⟩
        | ret u => obtain ⟨_, _, _, S6, r6, q6⟩ := z; exact goes S6 fun s7 J7 => ⟨_, _, _, J7, r6, q6⟩
end
end SK
namespace SK
open PySem L2 PyProof.Rows
open PySem.W (Frag)
/-! # Defs, methods and classes of the text as one calls them -/
/-- the def that the module's name x holds, with its promise -/
def Callee (P : Program) (w : World) (K : Frag) (mg : Str → Option Value) (base : Heap) (CX : CXT) (k : Nat) (x : Str) (ps : List Str) (sp : Sp) : Prop :=
  ∃ f fd, mg x = some (.ref f) ∧ PySem.W.keepIn K (.ref f) = true ∧ Binds K fd ps [] ∧ FnOk P w K mg base CX k f fd ps sp
/-- the method m of the class at C -/
def CalleeM (P : Program) (w : World) (K : Frag) (mg : Str → Option Value) (base : Heap) (CX : CXT) (k : Nat) (C : Addr) (m : Str) (ps : List Str) (sp : Sp) : Prop :=
  ∃ f fd, Cls K C ∧ Meth K C m f ∧ Binds K fd ps [] ∧ FnOk P w K mg base CX k f fd ps sp
/-- the class that the module's name x holds, by its __init__ -/
def CalleeC (P : Program) (w : World) (K : Frag) (mg : Str → Option Value) (base : Heap) (CX : CXT) (k : Nat) (x : Str) (C : Addr) (ps : List Str) (sp : Sp) : Prop :=
  ∃ f fd, mg x = some (.ref C) ∧ Mk K C f ∧ Binds K fd ps [] ∧ FnOk P w K mg base CX k f fd ps sp
/-- the same bound by keywords: the positional ones, then the names ks; g puts them in order -/
def CalleeMK (P : Program) (w : World) (K : Frag) (mg : Str → Option Value) (base : Heap) (CX : CXT) (k : Nat) (C : Addr) (m : Str) (ps ks : List Str) (gV : List V → List V → List V) (sp : Sp) : Prop :=
  ∃ f fd g, Cls K C ∧ Meth K C m f ∧ KBinds K fd ps ks g gV ∧ FnOk P w K mg base CX k f fd ps sp
section
variable {X : Cx} {CX : CXT} {k : Nat} {C : Addr} {ps ks : List Str} {sp : Sp} {E : L2.St → XK} {x m : Str} {p pos apos : Pos} {e o : Expr} {es : List Expr} {kws : List Keyword} {ta : TE} {t tk : TA} {gV : List V → List V → List V}
/-- nothing that a callee lets out is wished for -/
theorem out0 {σ : L2.St} : PassesAt CX0 X σ E0 := fun _ _ _ _ _ _ h => h.elim
theorem outX {σ : L2.St} : PassesAt (L2.CX X.prog X.w) X σ E0 := fun _ _ _ _ _ _ ⟨_, _, _, _, _, _, _, _, _, _, _, _, z⟩ => z.elim
abbrev EN : L2.St → XK := fun _ => E0
theorem pe_fn (F : Callee X.prog X.w X.K X.mg X.base CX k x ps sp) (hr : Room k X.A) (hx : ∀ σ, PassesAt CX X σ (E σ)) (ha : PA X (e :: es) t) (hg : Gl X x := by rfl) (hdb : (x == ("__debug__" : Str)) = false := by decide)
    (he : starEach (e :: es) X.env = (false, eval e X.env) :: starEach es X.env := by rfl) (hpl : (backTo pos (starEach es X.env)).any (·.1) = false := by rfl) :
    PE X (.Call (.Name x p) (e :: es) [] pos) (tCallS sp E t) := by
  obtain ⟨f, fd, hm, hk, hb, F⟩ := F
  exact pe_callS F hr hg hm hk hb hx ha hdb he hpl
/-- f() -/
theorem pe_fn0 (F : Callee X.prog X.w X.K X.mg X.base CX k x ps sp) (hr : Room k X.A) (hx : ∀ σ, PassesAt CX X σ (E σ)) (hg : Gl X x := by rfl) (hdb : (x == ("__debug__" : Str)) = false := by decide) :
    PE X (.Call (.Name x p) [] [] pos) (tCallS sp E tNil) := by
  obtain ⟨f, fd, hm, hk, hb, F⟩ := F
  refine ⟨fun pins s σ H Q J h => wpAny_Call_Name_kw (ld_glob J hg hm ?_ hdb)⟩
  exact PySem.W.callWith_K0 J.kIn hk (run_fnS (us := []) F hr hb (hx σ) J .nil h)
/-- o.m(..): the receiver's value, then the arguments -/
def tMeS (C : Addr) (m : Str) (sp : Sp) (E : L2.St → XK) (ta : TE) (t : TA) : TE := fun σ H Q => ta σ H fun x H1 => ∃ a dx fs, x = .ref a ∧ H1 a = some (.ins C dx fs) ∧ fs.lookup m = none ∧ t σ H1 fun vs H2 => sp (x :: vs) H2 Q (E σ)
theorem pe_me {pl : Sem Bool} (F : CalleeM X.prog X.w X.K X.mg X.base CX k C m ps sp) (hr : Room k X.A) (hx : ∀ σ, PassesAt CX X σ (E σ)) (ho : PE X o ta) (ha : PA X (e :: es) t)
    (hst : starEach (e :: es) X.env = (false, eval e X.env) :: starEach es X.env := by rfl) (hpl : (backTo pos (starEach es X.env)).any (·.1) = false := by rfl)
    (ht : eval (.Call (.Attribute o m apos) (e :: es) [] pos) X.env = (do
      let ov ← eval o X.env; standAt apos.atName
      let (f, first) ← holding [ov] (getMethod ov m pl)
      callWith pos f first (backTo pos (starEach (e :: es) X.env)) (backToKw pos (keywordEach [] X.env))) := by rfl) :
    PE X (.Call (.Attribute o m apos) (e :: es) [] pos) (tMeS C m sp E ta t) := by
  obtain ⟨f, fd, c, hm, hb, F⟩ := F
  refine ⟨fun pins s σ H Q J h => PySem.W.methodCall_KW (pl := pl) (thn (ho.run pins s σ H _ J h) ?_) ht⟩
  rintro u s1 ⟨x, H1, J1, rx, a, dx, fs, rfl, ea, l, q⟩
  obtain rfl : u = Value.ref a := rx
  refine getmeth_ok J1 ea c hm l (PySem.W.callWith_K (first := [.ref a]) (h₀ := X.base) J.ok.mod.kin hm.kp ?_ hst hpl)
  refine thn (ha.run pos pins s1 σ H1 _ J1 q) ?_
  rintro us s2 ⟨vs, H2, J2, r, q2⟩
  exact ⟨J2.kIn, run_fnS (us := .ref a :: us) (vs := .ref a :: vs) F hr hb (hx σ) J2 (.cons rfl r) q2⟩
theorem pe_me0 {pl : Sem Bool} (F : CalleeM X.prog X.w X.K X.mg X.base CX k C m ps sp) (hr : Room k X.A) (hx : ∀ σ, PassesAt CX X σ (E σ)) (ho : PE X o ta)
    (ht : eval (.Call (.Attribute o m apos) [] [] pos) X.env = (do
      let ov ← eval o X.env; standAt apos.atName
      let (f, first) ← holding [ov] (getMethod ov m pl)
      callWith pos f first (backTo pos (starEach [] X.env)) (backToKw pos (keywordEach [] X.env))) := by rfl) :
    PE X (.Call (.Attribute o m apos) [] [] pos) (tMeS C m sp E ta tNil) := by
  obtain ⟨f, fd, c, hm, hb, F⟩ := F
  refine ⟨fun pins s σ H Q J h => PySem.W.methodCall_KW (pl := pl) (thn (ho.run pins s σ H _ J h) ?_) ht⟩
  rintro u s1 ⟨x, H1, J1, rx, a, dx, fs, rfl, ea, l, q⟩
  obtain rfl : u = Value.ref a := rx
  refine getmeth_ok J1 ea c hm l ?_
  exact PySem.W.callWith_K0 (first := [.ref a]) J1.kIn hm.kp (run_fnS (us := [.ref a]) (vs := [.ref a]) F hr hb (hx σ) J1 (.cons rfl .nil) q)
/-- C(..): a new instance and its dict, then __init__ -/
def tMkS (C : Addr) (sp : Sp) (E : L2.St → XK) (t : TA) : TE := fun σ H Q => t σ H fun vs H1 => ∀ x dx, H1 x = none → H1 dx = none → dx ≠ x →
  sp (.ref x :: vs) (upd (upd H1 dx (.own x)) x (.ins C dx [])) (fun v H2 => v = .non ∧ Q (.ref x) H2) (E σ)
/-- C(..), by any binding of its values us and its keywords' values ws -/
theorem run_mk {f : Addr} {fd : FuncData} {g : List Value → List Value → List Value} {pins : List (Addr × Obj)} {σ : L2.St} {H : Hp} {s : Shared} {Q : VK} {us ws : List Value} {vs zs : List V} (M : Mk X.K C f) (F : FnOk X.prog X.w X.K X.mg X.base CX k f fd ps sp) (hr : Room (k + 1) X.A)
    (hb : KBinds X.K fd ps ks g gV) (hx : ∀ (H' : Hp) (e : Value) (s0 s' : Shared), Inv X pins σ H' s0 → CX X.stack H' s0 (E σ) e s' → X.xe e s') (J : Inv X pins σ H s) (r : Vals vs us) (rz : Vals zs ws)
    (h : ∀ x dx, H x = none → H dx = none → dx ≠ x → sp (gV (.ref x :: vs) zs) (upd (upd H dx (.own x)) x (.ins C dx [])) (fun v H2 => v = .non ∧ Q (.ref x) H2) (E σ)) :
    wpAny (model X.prog X.w) X.A (call (.ref C) us (ks.zip ws)) (EP X pins σ Q) X.xe s := by
  have big : s.heap.objs.size ≤ s.heap.objs.size + 1 := Nat.le_succ _
  have q0 := h _ _ (J.hok.fresh big) J.fresh (Nat.ne_of_lt (Nat.lt_succ_self _))
  have J2 := Inv.made (C := C) J
  have r2 := hb.rel (show Vals (V.ref (s.heap.objs.size + 1) :: vs) (Value.ref (s.heap.objs.size + 1) :: us) from .cons rfl r) rz
  have len : (g (Value.ref (s.heap.objs.size + 1) :: us) ws).length = ps.length := by
    rw [← r2.length]
    exact F.len _ _ _ _ q0
  have bd := hb.to _ (Value.ref (s.heap.objs.size + 1) :: us) ws J2.kIn len
  have go := F.run _ X.stack _ _ ⟨Value.ref (s.heap.objs.size + 1) :: us, ks.zip ws⟩ (g (Value.ref (s.heap.objs.size + 1) :: us) ws) _ _ (E σ) (hr.make C us (ks.zip ws)) (J2.env0.make C us (ks.zip ws)) bd r2 q0
  refine wpAny_call (make_map (f := f) J.kIn M.makes M.init (beq_iff_eq.mp M.fn) (codeAny_mono go ?_))
  rintro (e | fl) s' z
  · exact hx _ _ _ _ J2 z
  · cases fl with
    | ret u =>
      obtain ⟨v, H', J3, rv, ev, q3⟩ := J2.after z
      subst ev
      exact ⟨rv, V.ref (s.heap.objs.size + 1), H', J3, rfl, q3⟩
    | next => exact False.elim z
    | brk => exact False.elim z
    | cont => exact False.elim z
theorem Binds.kb {f : FuncData} (h : Binds X.K f ps []) : KBinds X.K f ps [] (fun us _ => us) (fun vs _ => vs) :=
  ⟨fun s us ws J l => by
    have z := h s us J (by rw [List.append_nil]; exact l)
    rw [List.append_nil] at z
    exact z, fun r _ => r⟩
theorem pe_mk (F : CalleeC X.prog X.w X.K X.mg X.base CX k x C ps sp) (hr : Room (k + 1) X.A) (hx : ∀ σ, PassesAt CX X σ (E σ)) (ha : PA X (e :: es) t) (hg : Gl X x := by rfl) (hdb : (x == ("__debug__" : Str)) = false := by decide)
    (he : starEach (e :: es) X.env = (false, eval e X.env) :: starEach es X.env := by rfl) (hpl : (backTo pos (starEach es X.env)).any (·.1) = false := by rfl) :
    PE X (.Call (.Name x p) (e :: es) [] pos) (tMkS C sp E t) := by
  obtain ⟨f, fd, hm, M, hb, F⟩ := F
  refine ⟨fun pins s σ H Q J h => wpAny_Call_Name_kw (ld_glob J hg hm ?_ hdb)⟩
  refine PySem.W.callWith_K (h₀ := X.base) J.ok.mod.kin M.kp (thn (ha.run pos pins s σ H _ J h) ?_) he hpl
  rintro us s1 ⟨vs, H1, J1, r, q⟩
  exact ⟨J1.kIn, run_mk (zs := []) (ws := []) M F hr (Binds.kb hb) (fun H' e s0 s' J' z => hx σ pins H' s0 e s' J' z) J1 r .nil q⟩
/-! ### calls by keywords alone -/
def tFnK (sp : Sp) (gV : List V → List V → List V) (E : L2.St → XK) (tk : TA) : TE := fun σ H Q => tk σ H fun zs H1 => sp (gV [] zs) H1 Q (E σ)
def CalleeK (P : Program) (w : World) (K : Frag) (mg : Str → Option Value) (base : Heap) (CX : CXT) (k : Nat) (x : Str) (ps ks : List Str) (gV : List V → List V → List V) (sp : Sp) : Prop :=
  ∃ f fd g, mg x = some (.ref f) ∧ PySem.W.keepIn K (.ref f) = true ∧ KBinds K fd ps ks g gV ∧ FnOk P w K mg base CX k f fd ps sp
def CalleeCK (P : Program) (w : World) (K : Frag) (mg : Str → Option Value) (base : Heap) (CX : CXT) (k : Nat) (x : Str) (C : Addr) (ps ks : List Str) (gV : List V → List V → List V) (sp : Sp) : Prop :=
  ∃ f fd g, mg x = some (.ref C) ∧ Mk K C f ∧ KBinds K fd ps ks g gV ∧ FnOk P w K mg base CX k f fd ps sp
theorem run_kw {f : Addr} {fd : FuncData} {g : List Value → List Value → List Value} {pins : List (Addr × Obj)} {σ : L2.St} {H : Hp} {s : Shared} {Q : VK} {us ws : List Value} {vs zs : List V} (F : FnOk X.prog X.w X.K X.mg X.base CX k f fd ps sp) (hr : Room k X.A) (hb : KBinds X.K fd ps ks g gV) (hx : PassesAt CX X σ (E σ))
    (J : Inv X pins σ H s) (r : Vals vs us) (rz : Vals zs ws) (h : sp (gV vs zs) H Q (E σ)) : wpAny (model X.prog X.w) X.A (call (.ref f) us (ks.zip ws)) (EP X pins σ Q) X.xe s := by
  have r2 := hb.rel r rz
  have len : (g us ws).length = ps.length := by
    rw [← r2.length]
    exact F.len _ _ _ _ h
  have go := F.run X.A X.stack s H ⟨us, ks.zip ws⟩ (g us ws) (gV vs zs) Q (E σ) hr J.env0 (hb.to s us ws J.kIn len) r2 h
  refine wpAny_call (codeAny_mono go ?_)
  rintro (e | fl) s' z
  · exact hx pins H s e s' J z
  · cases fl with
    | ret u => exact J.after z
    | next => exact False.elim z
    | brk => exact False.elim z
    | cont => exact False.elim z
theorem pe_fnK (F : CalleeK X.prog X.w X.K X.mg X.base CX k x ps ks gV sp) (hr : Room k X.A) (hx : ∀ σ, PassesAt CX X σ (E σ)) (hkw : PK X kws tk) (hg : Gl X x := by rfl) (hdb : (x == ("__debug__" : Str)) = false := by decide)
    (hall : (backToKw pos (keywordEach kws X.env)).all (·.1.isSome) = true := by rfl) (hks : (backToKw pos (keywordEach kws X.env)).filterMap (·.1) = ks := by rfl)
    (hpl : ((backTo pos (starEach [] X.env)).any (·.1) || (backToKw pos (keywordEach kws X.env)).any (·.1.isNone)) = false := by rfl) :
    PE X (.Call (.Name x p) [] kws pos) (tFnK sp gV E tk) := by
  obtain ⟨f, fd, g, hm, hk, hb, F⟩ := F
  refine ⟨fun pins s σ H Q J h => wpAny_Call_Name_kw (ld_glob J hg hm ?_ hdb)⟩
  refine PySem.W.callWith_KW0 (h₀ := X.base) J.ok.mod.kin hk hall (thn (hkw.run pos pins s σ H _ J h) ?_) hpl
  rintro ws s1 ⟨zs, H1, J1, rz, q⟩
  rw [hks]
  exact ⟨J1.kIn, run_kw (us := []) (vs := []) F hr hb (hx σ) J1 .nil rz q⟩
def tMkK (C : Addr) (sp : Sp) (gV : List V → List V → List V) (E : L2.St → XK) (tk : TA) : TE := fun σ H Q => tk σ H fun zs H1 => ∀ x dx, H1 x = none → H1 dx = none → dx ≠ x →
  sp (gV [.ref x] zs) (upd (upd H1 dx (.own x)) x (.ins C dx [])) (fun v H2 => v = .non ∧ Q (.ref x) H2) (E σ)
theorem pe_mkK (F : CalleeCK X.prog X.w X.K X.mg X.base CX k x C ps ks gV sp) (hr : Room (k + 1) X.A) (hx : ∀ σ, PassesAt CX X σ (E σ)) (hkw : PK X kws tk) (hg : Gl X x := by rfl) (hdb : (x == ("__debug__" : Str)) = false := by decide)
    (hall : (backToKw pos (keywordEach kws X.env)).all (·.1.isSome) = true := by rfl) (hks : (backToKw pos (keywordEach kws X.env)).filterMap (·.1) = ks := by rfl)
    (hpl : ((backTo pos (starEach [] X.env)).any (·.1) || (backToKw pos (keywordEach kws X.env)).any (·.1.isNone)) = false := by rfl) :
    PE X (.Call (.Name x p) [] kws pos) (tMkK C sp gV E tk) := by
  obtain ⟨f, fd, g, hm, M, hb, F⟩ := F
  refine ⟨fun pins s σ H Q J h => wpAny_Call_Name_kw (ld_glob J hg hm ?_ hdb)⟩
  refine PySem.W.callWith_KW0 (h₀ := X.base) J.ok.mod.kin M.kp hall (thn (hkw.run pos pins s σ H _ J h) ?_) hpl
  rintro ws s1 ⟨zs, H1, J1, rz, q⟩
  rw [hks]
  exact ⟨J1.kIn, run_mk (us := []) (vs := []) M F hr hb (fun H' e s0 s' J' z => hx σ pins H' s0 e s' J' z) J1 .nil rz q⟩
def tMeK (C : Addr) (m : Str) (sp : Sp) (gV : List V → List V → List V) (E : L2.St → XK) (ta : TE) (tk : TA) : TE := fun σ H Q => ta σ H fun x H1 => ∃ a dx fs, x = .ref a ∧ H1 a = some (.ins C dx fs) ∧ fs.lookup m = none ∧ tk σ H1 fun zs H2 => sp (gV [x] zs) H2 Q (E σ)
theorem pe_meK {pl : Sem Bool} (F : CalleeMK X.prog X.w X.K X.mg X.base CX k C m ps ks gV sp) (hr : Room k X.A) (hx : ∀ σ, PassesAt CX X σ (E σ)) (ho : PE X o ta) (hkw : PK X kws tk)
    (hall : (backToKw pos (keywordEach kws X.env)).all (·.1.isSome) = true := by rfl) (hks : (backToKw pos (keywordEach kws X.env)).filterMap (·.1) = ks := by rfl)
    (hpl : ((backTo pos (starEach [] X.env)).any (·.1) || (backToKw pos (keywordEach kws X.env)).any (·.1.isNone)) = false := by rfl)
    (ht : eval (.Call (.Attribute o m apos) [] kws pos) X.env = (do
      let ov ← eval o X.env; standAt apos.atName
      let (f, first) ← holding [ov] (getMethod ov m pl)
      callWith pos f first (backTo pos (starEach [] X.env)) (backToKw pos (keywordEach kws X.env))) := by rfl) :
    PE X (.Call (.Attribute o m apos) [] kws pos) (tMeK C m sp gV E ta tk) := by
  obtain ⟨f, fd, g, c, hm, hb, F⟩ := F
  refine ⟨fun pins s σ H Q J h => PySem.W.methodCall_KW (pl := pl) (thn (ho.run pins s σ H _ J h) ?_) ht⟩
  rintro u s1 ⟨x, H1, J1, rx, a, dx, fs, rfl, ea, l, q⟩
  obtain rfl : u = Value.ref a := rx
  refine getmeth_ok J1 ea c hm l ?_
  refine PySem.W.callWith_KW0 (first := [.ref a]) (h₀ := X.base) J.ok.mod.kin hm.kp hall (thn (hkw.run pos pins s1 σ H1 _ J1 q) ?_) hpl
  rintro ws s2 ⟨zs, H2, J2, rz, q2⟩
  rw [hks]
  exact ⟨J2.kIn, run_kw (us := [.ref a]) (vs := [.ref a]) F hr hb (hx σ) J2 (.cons rfl .nil) rz q2⟩
end
/-! ### constants of the module -/
def Glob (mg : Str → Option Value) (x : Str) (v : V) : Prop := ∃ u, mg x = some u ∧ RelV v u
theorem pe_gl {X : Cx} {x : Str} {v : V} {pos : Pos} (h : Glob X.mg x v) (hg : Gl X x := by rfl) (hd : (x == ("__debug__" : Str)) = false := by decide) : PE X (.Name x pos) (tC v) := by
  obtain ⟨u, hm, r⟩ := h
  exact pe_glob hg hm r hd
end SK
namespace SK
open PySem L2
open PySem.W (Frag)
section
variable {K : Frag} {σ : L2.St} {H H0 : Hp} {D : Ends} {Q : VK} {v x y : V} {ta tb te to : TE} {t u : TT} {a b p : Addr} {i j : Int} {xs ys : List V} {W : List Addr} {rs ls : Rec} {Φ : Hp → Prop} {n : Nat} {s z : Str}
theorem line_big {n : Nat} (h : n ≤ 1000000) : n ≤ sizeLine := Nat.le_trans h (by rw [sizeLine_eq]; decide)
theorem line_lt {n : Nat} (h : n ≤ 1000000) : n < sizeLine := Nat.lt_of_le_of_lt h (by rw [sizeLine_eq]; decide)
/-! sums, products -/
theorem x_addI (h : Q (.int (i + j)) H) : rAddU K (.int i) (.int j) H Q := .inl ⟨i, j, rfl, rfl, h⟩
theorem x_addS (l : s.length + z.length ≤ sizeLine) (h : Q (.str (s ++ z)) H) : rAddU K (.str s) (.str z) H Q := .inr (.inl ⟨s, z, rfl, rfl, l, h⟩)
theorem x_addL (L : Led W H0 H rs ls Φ) (ha : H a = some (.lst xs)) (hb : H b = some (.lst ys)) (l : xs.length + ys.length ≤ sizeLine) (k : ∀ p H', Led W H0 H' rs ((p, .lst (xs ++ ys)) :: ls) Φ → Q (.ref p) H') : rAddU K (.ref a) (.ref b) H Q :=
  .inr (.inr (.inl ⟨a, b, xs, ys, rfl, rfl, ha, hb, l, fun p hp => k p _ (L.alloc hp)⟩))
theorem x_mulI (c : CMul i j) (h : Q (.int (i * j)) H) : rMulU (.int i) (.int j) H Q := .inl ⟨i, j, rfl, rfl, c, h⟩
theorem x_mulL (L : Led W H0 H rs ls Φ) (ha : H a = some (.lst xs)) (h1 : -(2 ^ 63) ≤ j) (h2 : j < 2 ^ 63) (l : xs.length * j.toNat ≤ sizeLine) (k : ∀ p H', Led W H0 H' rs ((p, .lst (List.replicate j.toNat xs).flatten) :: ls) Φ → Q (.ref p) H') : rMulU (.ref a) (.int j) H Q :=
  .inr ⟨a, j, xs, rfl, rfl, ha, h1, h2, l, fun p hp => k p _ (L.alloc hp)⟩
/-! comparisons -/
theorem dI : decide (V.int i = V.int j) = decide (i = j) := by simp
theorem dS : decide (V.str s = V.str z) = decide (s = z) := by simp
theorem x_eqI (h : Q (.bl (decide (i = j))) H) : rEqU K (.int i) (.int j) H Q := .inl ⟨rfl, by rw [dI]; exact h⟩
theorem x_eqS (h : Q (.bl (decide (s = z))) H) : rEqU K (.str s) (.str z) H Q := .inl ⟨rfl, by rw [dS]; exact h⟩
theorem x_eqB {c d : Bool} (h : Q (.bl (decide (c = d))) H) : rEqU K (.bl c) (.bl d) H Q := .inl ⟨rfl, by simpa using h⟩
theorem x_eqNN (h : Q (.bl true) H) : rEqU K .non .non H Q := .inl ⟨rfl, h⟩
theorem x_eqNI (h : Q (.bl false) H) : rEqU K .non (.int j) H Q := .inl ⟨rfl, h⟩
theorem x_eqIN (h : Q (.bl false) H) : rEqU K (.int i) .non H Q := .inl ⟨rfl, h⟩
theorem x_eqD {d e : PyData} (h1 : Dp K H x d) (h2 : Dp K H y e) (s1 : SeqAt.shaped d = true) (s2 : SeqAt.shaped e = true) (h : Q (.bl (PyData.eqv d e)) H) : rEqU K x y H Q := .inr ⟨d, e, h1, h2, s1, s2, h⟩
theorem x_neI (h : Q (.bl (!decide (i = j))) H) : rNeU K (.int i) (.int j) H Q := .inl ⟨rfl, by rw [dI]; exact h⟩
theorem x_neS (h : Q (.bl (!decide (s = z))) H) : rNeU K (.str s) (.str z) H Q := .inl ⟨rfl, by rw [dS]; exact h⟩
theorem x_neB {c d : Bool} (h : Q (.bl (!decide (c = d))) H) : rNeU K (.bl c) (.bl d) H Q := .inl ⟨rfl, by simpa using h⟩
theorem x_neD {d e : PyData} (h1 : Dp K H x d) (h2 : Dp K H y e) (s1 : SeqAt.shaped d = true) (s2 : SeqAt.shaped e = true) (h : Q (.bl (!PyData.eqv d e)) H) : rNeU K x y H Q := .inr ⟨d, e, h1, h2, s1, s2, h⟩
theorem x_ltI (h : Q (.bl (decide (i < j))) H) : rLtU (.int i) (.int j) H Q := .inl ⟨i, j, rfl, rfl, h⟩
theorem x_ltS (h : Q (.bl (decide (s.cps.toList < z.cps.toList))) H) : rLtU (.str s) (.str z) H Q := .inr ⟨s, z, rfl, rfl, h⟩
theorem x_isNN (h : Q (.bl true) H) : rIsU .non .non H Q := .inl ⟨rfl, h⟩
theorem x_isIN (h : Q (.bl false) H) : rIsU (.int i) .non H Q := .inl ⟨rfl, h⟩
theorem x_isRN (h : Q (.bl false) H) : rIsU (.ref a) .non H Q := .inl ⟨rfl, h⟩
theorem x_isBN {c : Bool} (h : Q (.bl false) H) : rIsU (.bl c) .non H Q := .inl ⟨rfl, h⟩
theorem x_isSN (h : Q (.bl false) H) : rIsU (.str s) .non H Q := .inl ⟨rfl, h⟩
theorem x_isBB {c d : Bool} (h : Q (.bl (decide (c = d))) H) : rIsU (.bl c) (.bl d) H Q := .inr ⟨c, d, rfl, rfl, h⟩
theorem x_isN (h : Q (.bl (decide (x = .non))) H) : rIsU x .non H Q := .inl ⟨rfl, h⟩
theorem x_notNN (h : Q (.bl false) H) : rNotU .non .non H Q := .inl ⟨rfl, h⟩
theorem x_notIN (h : Q (.bl true) H) : rNotU (.int i) .non H Q := .inl ⟨rfl, h⟩
theorem x_notRN (h : Q (.bl true) H) : rNotU (.ref a) .non H Q := .inl ⟨rfl, h⟩
theorem x_notN (h : Q (.bl (!decide (x = .non))) H) : rNotU x .non H Q := .inl ⟨rfl, h⟩
def ChainV (r' : R2) (tc : TE) (σ : L2.St) (Q : VK) (y z : V) (H : Hp) : Prop := ∃ k, z = .bl k ∧ if k = true then tc σ H (fun w H' => r' y w H' Q) else Q (.bl false) H
theorem ChainV.mk {r' : R2} {tc : TE} {k : Bool} (h : IfT k (tc σ H (fun w H' => r' y w H' Q)) (Q (.bl false) H)) : ChainV r' tc σ Q y (.bl k) H := ⟨k, rfl, h⟩
theorem x_chain {r r' : R2} {tc : TE} (h : ta σ H fun x H1 => tb σ H1 fun y H2 => r x y H2 (ChainV r' tc σ Q y)) : tChain r r' ta tb tc σ H Q := h
/-! truth -/
def TruT (K : Frag) (Q : Bool → Hp → Prop) (x : V) (H : Hp) : Prop := ∃ k, TruV K x H k ∧ Q k H
theorem x_tru {Q : Bool → Hp → Prop} (h : ta σ H (TruT K Q)) : tTruth K ta σ H Q := h
theorem x_truB {Q : Bool → Hp → Prop} {c : Bool} (h : Q c H) : TruT K Q (.bl c) H := ⟨c, rfl, h⟩
theorem x_truI {Q : Bool → Hp → Prop} (h : Q (i != 0) H) : TruT K Q (.int i) H := ⟨_, rfl, h⟩
def AndT (K : Frag) (tb : TE) (σ : L2.St) (Q : VK) (x : V) (H : Hp) : Prop := ∃ k, TruV K x H k ∧ if k = true then tb σ H Q else Q x H
theorem x_andT (h : ta σ H (AndT K tb σ Q)) : tAndT K ta tb σ H Q := h
theorem AndT.bb {c : Bool} (h : IfT c (tb σ H Q) (Q (.bl c) H)) : AndT K tb σ Q (.bl c) H := ⟨c, rfl, h⟩
def OrT (K : Frag) (tb : TE) (σ : L2.St) (Q : VK) (x : V) (H : Hp) : Prop := ∃ k, TruV K x H k ∧ if k = true then Q x H else tb σ H Q
theorem x_orT (h : ta σ H (OrT K tb σ Q)) : tOrT K ta tb σ H Q := h
theorem OrT.bb {c : Bool} (h : IfT c (Q (.bl c) H) (tb σ H Q)) : OrT K tb σ Q (.bl c) H := ⟨c, rfl, h⟩
def NotT (K : Frag) (Q : VK) (x : V) (H : Hp) : Prop := ∃ k, TruV K x H k ∧ Q (.bl (!k)) H
theorem x_notT (h : ta σ H (NotT K Q)) : tNotT K ta σ H Q := h
theorem NotT.yes (h : Q (.bl false) H) : NotT K Q (.bl true) H := ⟨true, rfl, h⟩
theorem NotT.no (h : Q (.bl true) H) : NotT K Q (.bl false) H := ⟨false, rfl, h⟩
theorem NotT.bb {c : Bool} (h : Q (.bl (!c)) H) : NotT K Q (.bl c) H := ⟨c, rfl, h⟩
/-! len, int, abs, max, min, list, tuple, isinstance, sum -/
theorem x_lenL (h : SqL K H a xs) (q : Q (.int xs.length) H) : rLenU K [.ref a] H Q := .inl ⟨a, xs, rfl, .inl h, q⟩
theorem x_lenT (h : SqT K H a xs) (q : Q (.int xs.length) H) : rLenU K [.ref a] H Q := .inl ⟨a, xs, rfl, .inr h, q⟩
theorem x_lenS (l : s.length ≤ sizeLine) (q : Q (.int s.length) H) : rLenU K [.str s] H Q := .inr ⟨s, rfl, l, q⟩
theorem x_intI (q : Q (.int i) H) : rIntU [.int i] H Q := .inl ⟨i, rfl, q⟩
theorem x_intB {c : Bool} (q : Q (.int (if c then 1 else 0)) H) : rIntU [.bl c] H Q := .inr ⟨c, rfl, q⟩
theorem x_abs (q : Q (.int (if i < 0 then -i else i)) H) : rAbs [.int i] H Q := ⟨i, rfl, q⟩
theorem x_max2 (q : Q (.int (if j > i then j else i)) H) : rMax2 [.int i, .int j] H Q := ⟨i, j, rfl, q⟩
theorem x_min2 (q : Q (.int (if j < i then j else i)) H) : rMin2 [.int i, .int j] H Q := ⟨i, j, rfl, q⟩
theorem x_listL (L : Led W H0 H rs ls Φ) (h : SqL K H a xs) (k : ∀ p H', Led W H0 H' rs ((p, .lst xs) :: ls) Φ → Q (.ref p) H') : rListU K [.ref a] H Q := ⟨a, xs, rfl, .inl h, fun p hp => k p _ (L.alloc hp)⟩
theorem x_listT (L : Led W H0 H rs ls Φ) (h : SqT K H a xs) (k : ∀ p H', Led W H0 H' rs ((p, .lst xs) :: ls) Φ → Q (.ref p) H') : rListU K [.ref a] H Q := ⟨a, xs, rfl, .inr h, fun p hp => k p _ (L.alloc hp)⟩
theorem x_tupL (L : Led W H0 H rs ls Φ) (h : SqL K H a xs) (k : ∀ p H', Led W H0 H' rs ((p, .tup xs) :: ls) Φ → Q (.ref p) H') : rTupleU K [.ref a] H Q := ⟨a, xs, rfl, .inl ⟨h, fun p hp => k p _ (L.alloc hp)⟩⟩
theorem x_tupT (h : SqT K H a xs) (q : Q (.ref a) H) : rTupleU K [.ref a] H Q := ⟨a, xs, rfl, .inr ⟨h, q⟩⟩
theorem x_isi {m n : String} {r : Bool} (ty : TyX K H v (.type n)) (e : kitB n m = some r) (q : Q (.bl r) H) : rIsiU K [v, .ty m] H Q := .inl ⟨v, .ty m, .type n, .type m, r, rfl, .ty m, ty, kit_ty e, q⟩
theorem x_isi2 {m m' n : String} {r r' : Bool} (ty : TyX K H v (.type n)) (hp : H p = some (.tup [.ty m, .ty m'])) (e : kitB n m = some r) (e' : kitB n m' = some r') (q : Q (.bl (r || r')) H) : rIsiU K [v, .ref p] H Q :=
  .inr ⟨v, p, [.ty m, .ty m'], .type n, [.type m, .type m'], r || r', rfl, hp, .cons (.ty m) (.cons (.ty m') .nil), ty, kitAny_cons (kit_ty e) (fun z => kitAny_cons (kit_ty e') (fun z' => by rw [z, z']; exact kitAny_nil) (fun z' => by rw [z, z'] <;> rfl)) (fun z => by rw [z] <;> rfl), q⟩
theorem x_sum {ns : List Int} (h : SqL K H a (ns.map V.int)) (q : Q (.int ns.sum) H) : rSum K [.ref a] H Q := ⟨a, ns, rfl, h, q⟩
theorem x_all {bs : List Bool} (h : SqL K H a (bs.map V.bl)) (q : Q (.bl (bs.all id)) H) : rAll K [.ref a] H Q := ⟨a, bs, rfl, h, q⟩
theorem x_any {bs : List Bool} (h : SqL K H a (bs.map V.bl)) (q : Q (.bl (bs.any id)) H) : rAny K [.ref a] H Q := ⟨a, bs, rfl, h, q⟩
theorem tyT (h : SqT K H a xs) : TyX K H (.ref a) (.type "tuple") := by
  rcases h with (h | ⟨o, h⟩) | ⟨o, its, n, h, c, _⟩
  · exact .base (.tup h)
  · exact .fTuple h
  · exact .kTuple h c
theorem tyL (h : SqL K H a xs) : TyX K H (.ref a) (.type "list") := by
  rcases h with (h | ⟨o, h⟩) | ⟨o, its, n, h, c, _⟩
  · exact .base (.lst h)
  · exact .base (.frz h)
  · exact .kList h c
/-! items, slices -/
theorem x_ixL (h : SqL K H a xs) (e : atI xs i = some v) (q : Q v H) : rIx K (.ref a) (.int i) H Q := .inl ⟨a, xs, i, v, rfl, rfl, h, e, q⟩
theorem x_ixT (h : SqT K H a xs) (e : atI xs i = some v) (q : Q v H) : rIx K (.ref a) (.int i) H Q := .inr (.inl ⟨a, xs, i, v, rfl, rfl, h, e, q⟩)
theorem x_ixS {c : Nat} (l : s.length ≤ sizeLine) (e : atI s.cps.toList i = some c) (q : Q (.str ⟨#[c]⟩) H) : rIx K (.str s) (.int i) H Q := .inr (.inr ⟨s, i, c, rfl, rfl, l, e, q⟩)
def SlK (r : V → Option Int → Option Int → Hp → VK → Prop) (tl th : TO) (σ : L2.St) (Q : VK) (x : V) (H : Hp) : Prop := tl σ H fun l H2 => th σ H2 fun u H3 => r x l u H3 Q
theorem x_sl {r : V → Option Int → Option Int → Hp → VK → Prop} {tl th : TO} (h : te σ H fun x H1 => tl σ H1 fun l H2 => th σ H2 fun u H3 => r x l u H3 Q) : tSl r te tl th σ H Q := h
theorem x_noPart {Q : Option Int → Hp → Prop} (h : Q none H) : tNoPart σ H Q := h
def PartV (Q : Option Int → Hp → Prop) (x : V) (H : Hp) : Prop := ∃ i, x = .int i ∧ Q (some i) H
theorem PartV.mk {Q : Option Int → Hp → Prop} (h : Q (some i) H) : PartV Q (.int i) H := ⟨i, rfl, h⟩
theorem x_part {Q : Option Int → Hp → Prop} (h : te σ H (PartV Q)) : tPart te σ H Q := h
theorem x_slL {lo hi : Option Int} (L : Led W H0 H rs ls Φ) (h : SqL K H a xs) (k : ∀ p H', Led W H0 H' rs ((p, .lst (cutV xs lo hi)) :: ls) Φ → Q (.ref p) H') : rSlU K (.ref a) lo hi H Q := .inl ⟨a, xs, rfl, h, fun p hp => k p _ (L.alloc hp)⟩
theorem x_slS {lo hi : Option Int} (l : s.length ≤ sizeLine) (q : Q (.str (cutS s lo hi)) H) : rSlU K (.str s) lo hi H Q := .inr (.inr ⟨s, rfl, l, q⟩)
def RevK (K : Frag) (Q : VK) (x : V) (H : Hp) : Prop := ∃ a xs, x = .ref a ∧ SqL K H a xs ∧ ∀ p, H p = none → Q (.ref p) (upd H p (.lst xs.reverse))
theorem x_rev (h : te σ H (RevK K Q)) : tRevL K te σ H Q := h
theorem x_revL (L : Led W H0 H rs ls Φ) (h : SqL K H a xs) (k : ∀ p H', Led W H0 H' rs ((p, .lst xs.reverse) :: ls) Φ → Q (.ref p) H') : RevK K Q (.ref a) H := ⟨a, xs, rfl, h, fun p hp => k p _ (L.alloc hp)⟩
/-! new objects -/
def NewL (Q : VK) (xs : List V) (H : Hp) : Prop := xs.length ≤ sizeLine ∧ ∀ p, H p = none → Q (.ref p) (upd H p (.lst xs))
def NewT (Q : VK) (xs : List V) (H : Hp) : Prop := xs.length ≤ sizeLine ∧ ∀ p, H p = none → Q (.ref p) (upd H p (.tup xs))
theorem x_lst {ta : TA} (h : ta σ H (NewL Q)) : tLst ta σ H Q := h
theorem x_tup {ta : TA} (h : ta σ H (NewT Q)) : tTup ta σ H Q := h
theorem x_newL (L : Led W H0 H rs ls Φ) (l : xs.length ≤ sizeLine) (k : ∀ p H', Led W H0 H' rs ((p, .lst xs) :: ls) Φ → Q (.ref p) H') : NewL Q xs H := ⟨l, fun p hp => k p _ (L.alloc hp)⟩
theorem x_newT (L : Led W H0 H rs ls Φ) (l : xs.length ≤ sizeLine) (k : ∀ p H', Led W H0 H' rs ((p, .tup xs) :: ls) Φ → Q (.ref p) H') : NewT Q xs H := ⟨l, fun p hp => k p _ (L.alloc hp)⟩
def NewRg (Q : VK) (a b : Int) (H : Hp) : Prop := RgOk a b ∧ ∀ q, H q = none → Q (.ref q) (upd H q (.lst (rgV a b)))
theorem x_lstRg {te : L2.St → Hp → (Int → Int → Hp → Prop) → Prop} (h : te σ H (NewRg Q)) : tLstRg te σ H Q := h
def Rg1V (Q : Int → Int → Hp → Prop) (x : V) (H : Hp) : Prop := ∃ n, x = .int n ∧ Q 0 n H
theorem x_rg1 {Q : Int → Int → Hp → Prop} (h : ta σ H (Rg1V Q)) : tRg1 ta σ H Q := h
theorem Rg1V.mk {Q : Int → Int → Hp → Prop} (h : Q 0 i H) : Rg1V Q (.int i) H := ⟨i, rfl, h⟩
theorem x_newRg {c d : Int} (L : Led W H0 H rs ls Φ) (l : RgOk c d) (k : ∀ p H', Led W H0 H' rs ((p, .lst (rgV c d)) :: ls) Φ → Q (.ref p) H') : NewRg Q c d H := ⟨l, fun p hp => k p _ (L.alloc hp)⟩
/-! lists changed -/
theorem x_tyL {P : Prop} (h : H a = some (.lst xs)) (q : P) : tyV K "list" (.ref a) H ∧ P := ⟨.inl ⟨rfl, _, SqL.of h⟩, q⟩
theorem x_app (n : Nat) (L : Led W H0 H rs ls Φ) (hi : ls[n]? = some (a, .lst xs)) (l : xs.length < sizeLine) (k : ∀ H', Led W H0 H' rs (ls.set n (a, .lst (xs ++ [v]))) Φ → Q .non H') : rAppend (.ref a) [v] H Q :=
  ⟨a, xs, v, rfl, rfl, L.get n hi, l, k _ (L.put hi trivial)⟩
theorem x_ext (n : Nat) (L : Led W H0 H rs ls Φ) (hi : ls[n]? = some (a, .lst xs)) (hb : H b = some (.lst ys)) (l : xs.length + ys.length ≤ sizeLine) (k : ∀ H', Led W H0 H' rs (ls.set n (a, .lst (xs ++ ys))) Φ → Q .non H') : rExtend (.ref a) [.ref b] H Q :=
  ⟨a, b, xs, ys, rfl, rfl, L.get n hi, hb, l, k _ (L.put hi trivial)⟩
theorem x_popAt {m : Nat} (n : Nat) (L : Led W H0 H rs ls Φ) (hi : ls[n]? = some (a, .lst xs)) (h1 : -(2 ^ 63) ≤ i) (h2 : i < 2 ^ 63) (hm : seqIndex? i xs.length = some m) (hv : xs[m]? = some v) (k : ∀ H', Led W H0 H' rs (ls.set n (a, .lst (xs.eraseIdx m))) Φ → Q v H') : rPopAt (.ref a) [.int i] H Q :=
  ⟨a, xs, i, m, v, rfl, rfl, L.get n hi, h1, h2, hm, hv, k _ (L.put hi trivial)⟩
theorem x_setL {m : Nat} {Q : Hp → Prop} (n : Nat) (L : Led W H0 H rs ls Φ) (hi : ls[n]? = some (a, .lst xs)) (hm : ixN xs.length i = some m) (k : ∀ H', Led W H0 H' rs (ls.set n (a, .lst (xs.set m v))) Φ → Q H') : rSetL (.ref a) (.int i) v H Q :=
  ⟨a, xs, i, m, rfl, rfl, L.get n hi, hm, k _ (L.put hi trivial)⟩
/-! fields -/
def FldV (K : Frag) (f : Str) (Q : VK) (x : V) (H : Hp) : Prop := ∃ a C dx fs v, x = .ref a ∧ H a = some (.ins C dx fs) ∧ Cls K C ∧ NoAttr K C f ∧ fs.lookup f = some v ∧ Q v H
theorem x_fld {f : Str} (h : ta σ H (FldV K f Q)) : tFld K ta f σ H Q := h
theorem FldV.mk {f : Str} {C dx : Addr} {fs : List (Str × V)} (h : H a = some (.ins C dx fs)) (c : Cls K C) (n : NoAttr K C f) (l : fs.lookup f = some v) (q : Q v H) : FldV K f Q (.ref a) H := ⟨a, C, dx, fs, v, rfl, h, c, n, l, q⟩
def SFldV (K : Frag) (f : Str) (D : Ends) (σ : L2.St) (y x : V) (H : Hp) : Prop := ∃ a C dx fs, x = .ref a ∧ H a = some (.ins C dx fs) ∧ Cls K C ∧ NoAttr K C f ∧ fs.length < 1000 ∧ D.nx σ (upd H a (.ins C dx (putF f y fs)))
theorem x_sfld {tv : TE} {f : Str} (h : tv σ H fun y H1 => ta σ H1 (SFldV K f D σ y)) : sFld K ta tv f D σ H := h
theorem SFldV.mk {f : Str} {C dx : Addr} {fs : List (Str × V)} (n : Nat) (L : Led W H0 H rs ls Φ) (hi : ls[n]? = some (a, .ins C dx fs)) (c : Cls K C) (na : NoAttr K C f) (l : fs.length < 1000) (k : ∀ H', Led W H0 H' rs (ls.set n (a, .ins C dx (putF f y fs))) Φ → D.nx σ H') : SFldV K f D σ y (.ref a) H :=
  ⟨a, C, dx, fs, rfl, L.get n hi, c, na, l, k _ (L.put hi trivial)⟩
def MeV (C : Addr) (m : Str) (sp : Sp) (E : XK) (t : TA) (σ : L2.St) (Q : VK) (x : V) (H : Hp) : Prop := ∃ a dx fs, x = .ref a ∧ H a = some (.ins C dx fs) ∧ fs.lookup m = none ∧ t σ H fun vs H2 => sp (x :: vs) H2 Q E
theorem x_me {C : Addr} {m : Str} {sp : Sp} {E : L2.St → XK} {t : TA} (h : ta σ H (MeV C m sp (E σ) t σ Q)) : tMeS C m sp E ta t σ H Q := h
theorem MeV.mk {C dx : Addr} {fs : List (Str × V)} {m : Str} {sp : Sp} {E : XK} {t : TA} (h : H a = some (.ins C dx fs)) (l : fs.lookup m = none) (q : t σ H fun vs H2 => sp (.ref a :: vs) H2 Q E) : MeV C m sp E t σ Q (.ref a) H := ⟨a, dx, fs, rfl, h, l, q⟩
def MeKV (C : Addr) (m : Str) (sp : Sp) (gV : List V → List V → List V) (E : XK) (t : TA) (σ : L2.St) (Q : VK) (x : V) (H : Hp) : Prop := ∃ a dx fs, x = .ref a ∧ H a = some (.ins C dx fs) ∧ fs.lookup m = none ∧ t σ H fun zs H2 => sp (gV [x] zs) H2 Q E
theorem x_meK {C : Addr} {m : Str} {sp : Sp} {gV : List V → List V → List V} {E : L2.St → XK} {t : TA} (h : ta σ H (MeKV C m sp gV (E σ) t σ Q)) : tMeK C m sp gV E ta t σ H Q := h
theorem MeKV.mk {C dx : Addr} {fs : List (Str × V)} {m : Str} {sp : Sp} {gV : List V → List V → List V} {E : XK} {t : TA} (h : H a = some (.ins C dx fs)) (l : fs.lookup m = none) (q : t σ H fun zs H2 => sp (gV [.ref a] zs) H2 Q E) : MeKV C m sp gV E t σ Q (.ref a) H := ⟨a, dx, fs, rfl, h, l, q⟩
def MkV (C : Addr) (sp : Sp) (E : XK) (Q : VK) (vs : List V) (H1 : Hp) : Prop := ∀ x dx, H1 x = none → H1 dx = none → dx ≠ x → sp (.ref x :: vs) (upd (upd H1 dx (.own x)) x (.ins C dx [])) (fun v H2 => v = .non ∧ Q (.ref x) H2) E
theorem x_mk {C : Addr} {sp : Sp} {E : L2.St → XK} {t : TA} (h : t σ H (MkV C sp (E σ) Q)) : tMkS C sp E t σ H Q := h
theorem MkV.mk {C : Addr} {sp : Sp} {E : XK} {vs : List V} (L : Led W H0 H rs ls Φ) (k : ∀ x dx H', Led W H0 H' rs ((x, .ins C dx []) :: (dx, .own x) :: ls) Φ → sp (.ref x :: vs) H' (fun v H2 => v = .non ∧ Q (.ref x) H2) E) : MkV C sp E Q vs H :=
  fun x dx hx hd ne => k x dx _ ((L.alloc hd).alloc (by rw [upd_ne (Ne.symm ne)]; exact hx))
def RaiseV (C : Addr) (f : Str) (W : WX) (σ : L2.St) (vs : List V) (H1 : Hp) : Prop := ∃ v, vs = [v] ∧ ∀ d, H1 d = none → W (.ref C) (some d) σ (upd H1 d (.xd [(f, v)]))
theorem x_raise {C : Addr} {f : Str} {W : WX} {ta : TA} (h : ta σ H (RaiseV C f W σ)) : tRaiseE C f W ta D σ H := h
theorem RaiseV.mk {C : Addr} {f : Str} {W' : WX} (L : Led W H0 H rs ls Φ) (k : ∀ d H', Led W H0 H' rs ((d, .xd [(f, v)]) :: ls) Φ → W' (.ref C) (some d) σ H') : RaiseV C f W' σ [v] H := ⟨v, rfl, fun d hd => k d _ (L.alloc hd)⟩
def XfV (a : Addr) (cls : Value) (d : Option Addr) (C : Addr) (f : Str) (Q : VK) (x : V) (H : Hp) : Prop := x = .ref a ∧ cls = .ref C ∧ ∃ (dd : Addr) (fs : List (Str × V)) (v : V), d = some dd ∧ H dd = some (.xd fs) ∧ fs.lookup f = some v ∧ Q v H
theorem x_xf {cls : Value} {d : Option Addr} {C : Addr} {f : Str} (h : te σ H (XfV a cls d C f Q)) : tXf a cls d C f te σ H Q := h
theorem XfV.mk {C dd : Addr} {f : Str} {fs : List (Str × V)} (h : H dd = some (.xd fs)) (l : fs.lookup f = some v) (q : Q v H) : XfV a (.ref C) (some dd) C f Q (.ref a) H := ⟨rfl, rfl, dd, fs, v, rfl, h, l, q⟩
/-! loops -/
def ForV (g : TG) (tb : TS) (D : Ends) (σ : L2.St) (J : It) (H1 : Hp) : Prop := ∃ W : Nat → Nat → L2.St → Hp → Prop, (∃ m, W 0 m σ H1) ∧ ∀ i m σ H, W i m σ H → (J.stop i H ∧ D.nx σ H) ∨
  (J.go i H ∧ ∃ N : L2.St → Hp → Prop, (∀ σ' H', N σ' H' → ∃ m', m' < m ∧ W (i + 1) m' σ' H') ∧ ∀ x H', J.yld i H x H' → g x σ H' fun σ2 H2 => tb { nx := N, rt := D.rt, bk := D.nx, ct := N } σ2 H2)
theorem x_for {wi : TI} {g : TG} {tb : TS} (h : wi σ H (ForV g tb D σ)) : tFor wi g tb D σ H := h
def Rng1V (R : It → Hp → Prop) (vs : List V) (H : Hp) : Prop := ∃ j : Int, vs = [.int j] ∧ -(2 ^ 62) ≤ j ∧ j < 2 ^ 62 ∧ R (Itr 0 j.toNat) H
theorem x_rng1 {R : It → Hp → Prop} {ta : TA} (h : ta σ H (Rng1V R)) : iRng1 ta σ H R := h
theorem Rng1V.mk {R : It → Hp → Prop} (h1 : -(2 ^ 62) ≤ j) (h2 : j < 2 ^ 62) (h : R (Itr 0 j.toNat) H) : Rng1V R [.int j] H := ⟨j, rfl, h1, h2, h⟩
def Rng2V (R : It → Hp → Prop) (vs : List V) (H : Hp) : Prop := ∃ i j : Int, vs = [.int i, .int j] ∧ (-(2 ^ 62) ≤ i ∧ i < 2 ^ 62 ∧ -(2 ^ 62) ≤ j ∧ j < 2 ^ 62) ∧ R (Itr i (j - i).toNat) H
theorem x_rng2 {R : It → Hp → Prop} {ta : TA} (h : ta σ H (Rng2V R)) : iRng2 ta σ H R := h
theorem Rng2V.mk {R : It → Hp → Prop} (hb : -(2 ^ 62) ≤ i ∧ i < 2 ^ 62 ∧ -(2 ^ 62) ≤ j ∧ j < 2 ^ 62) (h : R (Itr i (j - i).toNat) H) : Rng2V R [.int i, .int j] H := ⟨i, j, rfl, hb, h⟩
theorem x_seqI {R : It → Hp → Prop} (h : te σ H (SeqIt K R)) : iSeq K te σ H R := h
theorem SeqIt.ll {R : It → Hp → Prop} (h : SqL K H a xs) (r : R (Itl K a) H) : SeqIt K R (.ref a) H := .inl ⟨a, rfl, ⟨xs, h⟩, r⟩
theorem SeqIt.tt {R : It → Hp → Prop} (h : SqT K H a xs) (r : R (Itt K a) H) : SeqIt K R (.ref a) H := .inr ⟨a, rfl, ⟨xs, h⟩, r⟩
def BodyV (tb : TS) (D : Ends) (N : L2.St → Hp → Prop) (σ : L2.St) (H : Hp) : Prop := tb { nx := N, rt := D.rt, bk := D.nx, ct := N } σ H
theorem x_body {tb : TS} {N : L2.St → Hp → Prop} (h : tb { nx := N, rt := D.rt, bk := D.nx, ct := N } σ H) : BodyV tb D N σ H := h
theorem ForV.lst {g : TG} {tb : TS} (Pv : Nat → L2.St → Hp → Prop) (h0 : Pv 0 σ H) (hl : ∀ i σ H, i ≤ xs.length → Pv i σ H → SqL K H a xs)
    (hs : ∀ i x σ H, xs[i]? = some x → Pv i σ H → g x σ H (BodyV tb D (Pv (i + 1)))) (hd : ∀ σ H, Pv xs.length σ H → D.nx σ H) : ForV g tb D σ (Itl K a) H := for_list Pv h0 hl hs hd
theorem ForV.tup {g : TG} {tb : TS} (Pv : Nat → L2.St → Hp → Prop) (h0 : Pv 0 σ H) (hl : ∀ i σ H, i ≤ xs.length → Pv i σ H → SqT K H a xs)
    (hs : ∀ i x σ H, xs[i]? = some x → Pv i σ H → g x σ H (BodyV tb D (Pv (i + 1)))) (hd : ∀ σ H, Pv xs.length σ H → D.nx σ H) : ForV g tb D σ (Itt K a) H := for_tup Pv h0 hl hs hd
theorem ForV.rng {g : TG} {tb : TS} {lo : Int} {n : Nat} (Pv : Nat → L2.St → Hp → Prop) (h0 : Pv 0 σ H)
    (hs : ∀ (i : Nat) σ H, i < n → Pv i σ H → g (.int (lo + i)) σ H (BodyV tb D (Pv (i + 1)))) (hd : ∀ σ H, Pv n σ H → D.nx σ H) : ForV g tb D σ (Itr lo n) H := for_range Pv h0 hs hd
def WhO (W : Nat → L2.St → Hp → Prop) (m : Nat) (tb : TS) (D : Ends) (σ : L2.St) (b : Bool) (H1 : Hp) : Prop :=
  if b = true then ∃ N : L2.St → Hp → Prop, (∀ σ' H', N σ' H' → ∃ m', m' < m ∧ W m' σ' H') ∧ tb { nx := N, rt := D.rt, bk := D.nx, ct := N } σ H1 else D.nx σ H1
theorem x_while {tb : TS} (W : Nat → L2.St → Hp → Prop) (m : Nat) (h0 : W m σ H) (hs : ∀ m σ H, W m σ H → t σ H (WhO W m tb D σ)) : tWhile t tb D σ H := ⟨W, ⟨m, h0⟩, hs⟩
theorem WhO.yes {W : Nat → L2.St → Hp → Prop} {m : Nat} {tb : TS} (h : tb { nx := fun σ' H' => ∃ m', m' < m ∧ W m' σ' H', rt := D.rt, bk := D.nx, ct := fun σ' H' => ∃ m', m' < m ∧ W m' σ' H' } σ H) : WhO W m tb D σ true H := ⟨_, fun _ _ z => z, h⟩
theorem WhO.no {W : Nat → L2.St → Hp → Prop} {m : Nat} {tb : TS} (h : D.nx σ H) : WhO W m tb D σ false H := h
theorem WhO.by_ {W : Nat → L2.St → Hp → Prop} {m : Nat} {tb : TS} {c : Bool} (h1 : c = true → WhO W m tb D σ true H) (h2 : c = false → WhO W m tb D σ false H) : WhO W m tb D σ c H := by
  cases c with
  | true => exact h1 rfl
  | false => exact h2 rfl
/-! comprehensions -/
def LcV (g : TG) (tt : TT) (te : TE) (vs : List Nat) (σ : L2.St) (Q : VK) (J : It) (H1 : Hp) : Prop := ∀ D, H1 D = none → ∃ W : Nat → Nat → Hp → Prop, (∃ m, W 0 m (upd H1 D (.lst []))) ∧ ∀ i m H, W i m H →
  (J.stop i H ∧ Q (.ref D) H) ∨ (J.go i H ∧ ∃ Nx : Hp → Prop, (∀ H', Nx H' → ∃ m', m' < m ∧ W (i + 1) m' H') ∧ ∀ x H', J.yld i H x H' → g x (wipe σ vs) H' fun σ2 H2 => wipe σ2 vs = wipe σ vs ∧ tt σ2 H2 fun b H3 =>
    if b = true then te σ2 H3 fun y H4 => ∃ acc, H4 D = some (.lst acc) ∧ acc.length < sizeLine ∧ Nx (upd H4 D (.lst (acc ++ [y]))) else Nx H3)
theorem x_lc {wi : TI} {g : TG} {vs : List Nat} {tt : TT} (h : wi σ H (LcV g tt te vs σ Q)) : tLc wi g tt te vs σ H Q := h
def AccV (D : Addr) (Nx : Hp → Prop) (y : V) (H4 : Hp) : Prop := ∃ acc, H4 D = some (.lst acc) ∧ acc.length < sizeLine ∧ Nx (upd H4 D (.lst (acc ++ [y])))
theorem AccV.mk {D : Addr} {Nx : Hp → Prop} {acc : List V} (n : Nat) (L : Led W H0 H rs ls Φ) (hi : ls[n]? = some (D, .lst acc)) (l : acc.length < sizeLine) (k : ∀ H', Led W H0 H' rs (ls.set n (D, .lst (acc ++ [y]))) Φ → Nx H') : AccV D Nx y H :=
  ⟨acc, L.get n hi, l, k _ (L.put hi trivial)⟩
def LcI (te : TE) (σ2 : L2.St) (D : Addr) (Nx : Hp → Prop) (b : Bool) (H3 : Hp) : Prop := if b = true then te σ2 H3 (AccV D Nx) else Nx H3
theorem LcI.yes {D : Addr} {Nx : Hp → Prop} (h : te σ H (AccV D Nx)) : LcI te σ D Nx true H := h
theorem LcI.no {D : Addr} {Nx : Hp → Prop} (h : Nx H) : LcI te σ D Nx false H := h
theorem LcI.by_ {D : Addr} {Nx : Hp → Prop} {c : Bool} (h1 : c = true → LcI te σ D Nx true H) (h2 : c = false → LcI te σ D Nx false H) : LcI te σ D Nx c H := by
  cases c with
  | true => exact h1 rfl
  | false => exact h2 rfl
theorem x_yes {Q : Bool → Hp → Prop} (h : Q true H) : tYes σ H Q := h
def LcB (tt : TT) (te : TE) (vs : List Nat) (σ0 : L2.St) (D : Addr) (Nx : Hp → Prop) (σ2 : L2.St) (H2 : Hp) : Prop := wipe σ2 vs = wipe σ0 vs ∧ tt σ2 H2 (LcI te σ2 D Nx)
theorem LcB.mk {tt : TT} {vs : List Nat} {σ0 : L2.St} {D : Addr} {Nx : Hp → Prop} (e : wipe σ vs = wipe σ0 vs) (h : tt σ H (LcI te σ D Nx)) : LcB tt te vs σ0 D Nx σ H := ⟨e, h⟩
theorem LcV.rng {g : TG} {vs : List Nat} {tt : TT} {lo : Int} {n : Nat} (L : Led W H0 H rs ls Φ) (Pv : Addr → Nat → Hp → Prop) (h0 : ∀ D H', Led W H0 H' rs ((D, .lst []) :: ls) Φ → Pv D 0 H')
    (hs : ∀ D (i : Nat) H, i < n → Pv D i H → g (.int (lo + i)) (wipe σ vs) H (LcB tt te vs σ D (Pv D (i + 1)))) (hd : ∀ D H, Pv D n H → Q (.ref D) H) : LcV g tt te vs σ Q (Itr lo n) H :=
  fun D hD => lc_range (Qd := Q (.ref D)) (Pv D) (h0 D _ (L.alloc hD)) (fun i H hi p => hs D i H hi p) (hd D)
theorem LcV.lst {g : TG} {vs : List Nat} {tt : TT} (L : Led W H0 H rs ls Φ) (Pv : Addr → Nat → Hp → Prop) (h0 : ∀ D H', Led W H0 H' rs ((D, .lst []) :: ls) Φ → Pv D 0 H') (hl : ∀ D i H, i ≤ xs.length → Pv D i H → SqL K H a xs)
    (hs : ∀ D i x H, xs[i]? = some x → Pv D i H → g x (wipe σ vs) H (LcB tt te vs σ D (Pv D (i + 1)))) (hd : ∀ D H, Pv D xs.length H → Q (.ref D) H) : LcV g tt te vs σ Q (Itl K a) H :=
  fun D hD => lc_list (K := K) (a := a) (xs := xs) (Qd := Q (.ref D)) (Pv D) (h0 D _ (L.alloc hD)) (hl D) (fun i x H hi p => hs D i x H hi p) (hd D)
theorem LcV.tup {g : TG} {vs : List Nat} {tt : TT} (L : Led W H0 H rs ls Φ) (Pv : Addr → Nat → Hp → Prop) (h0 : ∀ D H', Led W H0 H' rs ((D, .lst []) :: ls) Φ → Pv D 0 H') (hl : ∀ D i H, i ≤ xs.length → Pv D i H → SqT K H a xs)
    (hs : ∀ D i x H, xs[i]? = some x → Pv D i H → g x (wipe σ vs) H (LcB tt te vs σ D (Pv D (i + 1)))) (hd : ∀ D H, Pv D xs.length H → Q (.ref D) H) : LcV g tt te vs σ Q (Itt K a) H :=
  fun D hD => lc_tup (K := K) (a := a) (xs := xs) (Qd := Q (.ref D)) (Pv D) (h0 D _ (L.alloc hD)) (hl D) (fun i x H hi p => hs D i x H hi p) (hd D)
/-! errors caught -/
theorem wCls_hit {Wout : WX} {c : Value} {i : Nat} {ts : Addr → Value → Option Addr → TS} {r : List Cl} {cls : Value} {d : Option Addr} (e : PySem.W.exmOne K cls c = some true) (h : ∀ a, H a = none → ts a cls d (gone i D) (σ.set i (some (.ref a))) H) : wCls K Wout D (⟨c, some i, ts⟩ :: r) cls d σ H :=
  ⟨true, e, fun _ => h, fun z => nomatch z⟩
theorem wCls_hit0 {Wout : WX} {c : Value} {ts : Addr → Value → Option Addr → TS} {r : List Cl} {cls : Value} {d : Option Addr} (e : PySem.W.exmOne K cls c = some true) (h : ∀ a, H a = none → ts a cls d D σ H) : wCls K Wout D (⟨c, none, ts⟩ :: r) cls d σ H :=
  ⟨true, e, fun _ => h, fun z => nomatch z⟩
theorem wCls_miss {Wout : WX} {c : Value} {i : Option Nat} {ts : Addr → Value → Option Addr → TS} {r : List Cl} {cls : Value} {d : Option Addr} (e : PySem.W.exmOne K cls c = some false) (h : wCls K Wout D r cls d σ H) : wCls K Wout D (⟨c, i, ts⟩ :: r) cls d σ H := by
  cases i with
  | none => exact ⟨false, e, fun z => (nomatch z), fun _ => h⟩
  | some i => exact ⟨false, e, fun z => (nomatch z), fun _ => h⟩
end
end SK
namespace SK
open PySem L2
open PySem.W (Frag)
/-! ## Plain data: none, bools, ints, texts, lists and tuples of them -/
inductive Flat : Nat → PyData → Prop
  | non {n} : Flat n .none
  | bl {n b} : Flat n (.bool b)
  | int {n i} : Flat n (.int i)
  | str {n} {s : Str} : PyData.canLay0 (.str s) = true → s.length ≤ 100000 → Flat n (.str s)
  | lst {n ds} : (∀ d ∈ ds, Flat n d) → ds.length ≤ 100000 → Flat (n + 1) (.list ds)
  | tup {n ds} : (∀ d ∈ ds, Flat n d) → ds.length ≤ 100000 → Flat (n + 1) (.tuple ds)
theorem canAll : ∀ {ds : List PyData}, (∀ d ∈ ds, d.canLay0 = true) → PyData.canLayAll0 ds = true
  | [], _ => by rw [PyData.canLayAll0]
  | d :: ds, h => by
    rw [PyData.canLayAll0, h d List.mem_cons_self, canAll fun e he => h e (List.mem_cons_of_mem _ he)] <;> rfl
theorem depthAllLe {n : Nat} : ∀ {ds : List PyData}, (∀ d ∈ ds, d.depth ≤ n) → PyData.depthAll ds ≤ n
  | [], _ => by rw [PyData.depthAll]; exact Nat.zero_le _
  | d :: ds, h => by
    rw [PyData.depthAll]
    exact Nat.max_le.mpr ⟨h d List.mem_cons_self, depthAllLe fun e he => h e (List.mem_cons_of_mem _ he)⟩
theorem Flat.can {n : Nat} {d : PyData} (h : Flat n d) : d.canLay0 = true ∧ d.depth ≤ n := by
  induction h with
  | non => exact ⟨by rw [PyData.canLay0], by rw [PyData.depth]; exact Nat.zero_le _⟩
  | bl => exact ⟨by rw [PyData.canLay0], by rw [PyData.depth]; exact Nat.zero_le _⟩
  | int => exact ⟨by rw [PyData.canLay0], by rw [PyData.depth]; exact Nat.zero_le _⟩
  | str l _ =>
    refine ⟨?_, by rw [PyData.depth]; exact Nat.zero_le _⟩
    exact l
  | lst _ _ ih => exact ⟨by rw [PyData.canLay0]; exact canAll fun d hd => (ih d hd).1, by rw [PyData.depth]; exact Nat.succ_le_succ (depthAllLe fun d hd => (ih d hd).2)⟩
  | tup _ _ ih => exact ⟨by rw [PyData.canLay0]; exact canAll fun d hd => (ih d hd).1, by rw [PyData.depth]; exact Nat.succ_le_succ (depthAllLe fun d hd => (ih d hd).2)⟩
theorem Flat.shaped {n : Nat} {d : PyData} (h : Flat n d) (l : n ≤ 64) : SeqAt.shaped d = true := by
  unfold SeqAt.shaped
  rw [h.can.1, decide_eq_true (Nat.le_trans h.can.2 l)] <;> rfl
theorem Flat.refl {n : Nat} {d : PyData} (h : Flat n d) : PyData.eqv d d = true := PySem.SeqAt.eqv_refl d h.can.1
theorem Flat.mono {n : Nat} {d : PyData} (h : Flat n d) : ∀ {m : Nat}, n ≤ m → Flat m d := by
  induction h with
  | non => intro m _; exact .non
  | bl => intro m _; exact .bl
  | int => intro m _; exact .int
  | str l z => intro m _; exact .str l z
  | lst _ l ih =>
    intro m hm
    obtain ⟨k, rfl⟩ : ∃ k, m = k + 1 := ⟨m - 1, by omega⟩
    exact .lst (fun d hd => ih d hd (by omega)) l
  | tup _ l ih =>
    intro m hm
    obtain ⟨k, rfl⟩ : ∃ k, m = k + 1 := ⟨m - 1, by omega⟩
    exact .tup (fun d hd => ih d hd (by omega)) l
mutual
theorem Dp.keep {K : Frag} {H H' : Hp} (m : Mod [] H H') : ∀ (d : PyData) (v : V), Dp K H v d → Dp K H' v d
  | .none, _, h => by cases h; exact .non
  | .bool b, _, h => by cases h; exact .bl b
  | .int i, _, h => by cases h; exact .int i
  | .str x, _, h => by cases h; exact .str x
  | .list ds, _, h => by
    cases h with
    | lst hs ha => exact .lst (m.sqL (by simp) hs) (DpAll.keep m ds _ ha)
  | .tuple ds, _, h => by
    cases h with
    | tup hs ha => exact .tup (m.grow.sqT hs) (DpAll.keep m ds _ ha)
  | .dict _, _, h => by cases h
theorem DpAll.keep {K : Frag} {H H' : Hp} (m : Mod [] H H') : ∀ (ds : List PyData) (vs : List V), DpAll K H vs ds → DpAll K H' vs ds
  | [], _, h => by cases h; exact .nil
  | d :: ds, _, h => by
    cases h with
    | cons h1 h2 => exact .cons (Dp.keep m d _ h1) (DpAll.keep m ds _ h2)
end
theorem dpInts {K : Frag} {H : Hp} : ∀ ns : List Int, DpAll K H (ns.map V.int) (ns.map PyData.int)
  | [] => .nil
  | n :: ns => .cons (.int n) (dpInts ns)
theorem dpStrs {K : Frag} {H : Hp} : ∀ ns : List Str, DpAll K H (ns.map V.str) (ns.map PyData.str)
  | [] => .nil
  | n :: ns => .cons (.str n) (dpStrs ns)
theorem flatInts {n : Nat} (ns : List Int) : ∀ d ∈ ns.map PyData.int, Flat n d := fun d hd => by
  obtain ⟨i, _, rfl⟩ := List.mem_map.mp hd
  exact .int
theorem dpLen {K : Frag} {H : Hp} : ∀ {vs : List V} {ds : List PyData}, DpAll K H vs ds → vs.length = ds.length
  | _, _, .nil => rfl
  | _, _, .cons _ h => congrArg Nat.succ (dpLen h)
theorem dpAt {K : Frag} {H : Hp} : ∀ {vs : List V} {ds : List PyData} {i : Nat} {d : PyData}, DpAll K H vs ds → ds[i]? = some d → ∃ v, vs[i]? = some v ∧ Dp K H v d
  | _, _, i, d, .nil, e => by simp at e
  | _, _, 0, d, .cons h _, e => by
    have e' := Option.some.inj e
    subst e'
    exact ⟨_, rfl, h⟩
  | _, _, i + 1, d, .cons _ h, e => dpAt (i := i) h (by simpa using e)
section
variable {K : Frag} {H : Hp} {Q : VK} {a b : Addr} {xs : List V} {ds : List PyData} {n : Nat}
theorem eqv_nil : PyData.eqv (.list ds) (.list []) = ds.isEmpty := by
  cases ds with
  | nil => rw [PyData.eqv, PyData.eqvAll]; rfl
  | cons d ds => rw [PyData.eqv, PyData.eqvAll]; rfl
theorem isEmpty_len {α β : Type} {xs : List α} {ds : List β} (h : xs.length = ds.length) : xs.isEmpty = ds.isEmpty := by
  cases xs <;> cases ds <;> simp_all
theorem x_eqNil (h1 : SqL K H a xs) (h2 : SqL K H b []) (hd : DpAll K H xs ds) (hf : ∀ d ∈ ds, Flat 8 d) (hl : xs.length ≤ 100000) (h : Q (.bl xs.isEmpty) H) : rEqU K (.ref a) (.ref b) H Q :=
  x_eqD (.lst h1 hd) (.lst h2 .nil) ((Flat.lst hf (by rw [← dpLen hd]; exact hl)).shaped (by decide)) ((Flat.lst (n := 0) (by simp) (by simp)).shaped (by decide)) (by rw [eqv_nil, ← isEmpty_len (dpLen hd)]; exact h)
theorem x_neNil (h1 : SqL K H a xs) (h2 : SqL K H b []) (hd : DpAll K H xs ds) (hf : ∀ d ∈ ds, Flat 8 d) (hl : xs.length ≤ 100000) (h : Q (.bl (!xs.isEmpty)) H) : rNeU K (.ref a) (.ref b) H Q :=
  x_neD (.lst h1 hd) (.lst h2 .nil) ((Flat.lst hf (by rw [← dpLen hd]; exact hl)).shaped (by decide)) ((Flat.lst (n := 0) (by simp) (by simp)).shaped (by decide)) (by rw [eqv_nil, ← isEmpty_len (dpLen hd)]; exact h)
end
theorem take_more {α : Type} {xs : List α} {i : Nat} {x : α} (h : xs[i]? = some x) : xs.take (i + 1) = xs.take i ++ [x] := by
  rw [List.take_add_one, h]
  rfl
theorem pairAt {α β : Type} {F : α → β → Prop} : ∀ {xs : List α} {ys : List β} {i : Nat} {x : α}, Paired F xs ys → xs[i]? = some x → ∃ y, ys[i]? = some y ∧ F x y
  | _, _, i, x, .nil, e => by simp at e
  | _, _, 0, x, .cons h _, e => by
    have e' := Option.some.inj e
    subst e'
    exact ⟨_, rfl, h⟩
  | _, _, i + 1, x, .cons _ h, e => pairAt (i := i) h (by simpa using e)
theorem pairAt' {α β : Type} {F : α → β → Prop} : ∀ {xs : List α} {ys : List β} {i : Nat} {y : β}, Paired F xs ys → ys[i]? = some y → ∃ x, xs[i]? = some x ∧ F x y
  | _, _, i, y, .nil, e => by simp at e
  | _, _, 0, y, .cons h _, e => by
    have e' := Option.some.inj e
    subst e'
    exact ⟨_, rfl, h⟩
  | _, _, i + 1, y, .cons _ h, e => pairAt' (i := i) h (by simpa using e)
theorem pairLen {α β : Type} {F : α → β → Prop} : ∀ {xs : List α} {ys : List β}, Paired F xs ys → xs.length = ys.length
  | _, _, .nil => rfl
  | _, _, .cons _ h => congrArg Nat.succ (pairLen h)
theorem pairApp {α β : Type} {F : α → β → Prop} : ∀ {xs us : List α} {ys vs : List β}, Paired F xs ys → Paired F us vs → Paired F (xs ++ us) (ys ++ vs)
  | _, _, _, _, .nil, q => q
  | _, _, _, _, .cons h r, q => .cons h (pairApp r q)
theorem perm_erase {α : Type} : ∀ {ys : List α} {m : Nat} {v : α}, ys[m]? = some v → (v :: ys.eraseIdx m).Perm ys
  | [], m, v, e => by simp at e
  | y :: ys, 0, v, e => by
    have e' : y = v := by simpa using e
    subst e'
    simp
  | y :: ys, m + 1, v, e => by
    have ih := perm_erase (ys := ys) (m := m) (v := v) (by simpa using e)
    rw [List.eraseIdx_cons_succ]
    exact (List.Perm.swap y v _).trans (ih.cons y)
theorem seq_nat {r : Int} {n : Nat} (h0 : 0 ≤ r) (h1 : r < n) : seqIndex? r n = some r.toNat := by
  unfold seqIndex?
  simp [show ¬ r < 0 by omega, h0, h1]
theorem cut_one {s : Str} {k c : Nat} (h : s.cps.toList[k]? = some c) : cutS s (some (k : Int)) (some ((k : Int) + 1)) = ⟨#[c]⟩ := by
  have hl : k < s.length := by
    have := (List.getElem?_eq_some_iff.mp h).1
    simpa [Str.length] using this
  unfold cutS
  rw [HT.sIx_nat, show ((k : Int) + 1) = ((k + 1 : Nat) : Int) by omega, HT.sIx_nat, Nat.min_eq_left (by omega), Nat.min_eq_left (by omega), show k + 1 - k = 1 by omega]
  have e : (s.cps.toList.drop k).take 1 = [c] := by
    rw [List.take_one, List.head?_drop, h]; rfl
  rw [e]
theorem str_at {s : Str} {k : Nat} (h : k < s.length) : ∃ c, s.cps.toList[k]? = some c := by
  have : k < s.cps.toList.length := by simpa [Str.length] using h
  exact ⟨s.cps.toList[k], List.getElem?_eq_getElem this⟩
theorem atI_int {α : Type} {xs : List α} {i : Int} {v : α} (h0 : 0 ≤ i) (h : xs[i.toNat]? = some v) : atI xs i = some v := by
  have z := atI_nat h
  rwa [Int.toNat_of_nonneg h0] at z
theorem ixN_int {n : Nat} {i : Int} (h0 : 0 ≤ i) (h1 : i < n) : ixN n i = some i.toNat := by
  unfold ixN
  rw [if_pos h0, if_pos h1]
/-- none or an int -/
@[reducible] def oV (x : Option Int) : V := match x with
  | none => .non
  | some i => .int i
def oD : Option Int → PyData
  | none => .none
  | some i => .int i
theorem dpO {K : Frag} {H : Hp} : ∀ x : Option Int, Dp K H (oV x) (oD x)
  | none => .non
  | some i => .int i
theorem dpOpts {K : Frag} {H : Hp} : ∀ xs : List (Option Int), DpAll K H (xs.map oV) (xs.map oD)
  | [] => .nil
  | x :: xs => .cons (dpO x) (dpOpts xs)
theorem flatO {n : Nat} : ∀ x : Option Int, Flat n (oD x)
  | none => .non
  | some i => .int
theorem flatOpts {n : Nat} (xs : List (Option Int)) : ∀ d ∈ xs.map oD, Flat n d := fun d hd => by
  obtain ⟨i, _, rfl⟩ := List.mem_map.mp hd
  exact flatO i
theorem eqvO (x y : Option Int) : PyData.eqv (oD x) (oD y) = decide (x = y) := by
  cases x <;> cases y <;> simp [oD, PyData.eqv, Bool.beq_eq_decide_eq]
theorem eqvOpts : ∀ xs ys : List (Option Int), PyData.eqvAll (xs.map oD) (ys.map oD) = decide (xs = ys)
  | [], [] => by rw [List.map_nil, PyData.eqvAll]; simp
  | [], y :: ys => by rw [List.map_nil, List.map_cons, PyData.eqvAll]; simp
  | x :: xs, [] => by rw [List.map_nil, List.map_cons, PyData.eqvAll]; simp
  | x :: xs, y :: ys => by
    rw [List.map_cons, List.map_cons, PyData.eqvAll, eqvO, eqvOpts xs ys]
    by_cases h : x = y <;> by_cases h' : xs = ys <;> simp [h, h']
theorem x_eqOpts {K : Frag} {H : Hp} {Q : VK} {a b : Addr} {xs ys : List (Option Int)} (h1 : SqL K H a (xs.map oV)) (h2 : SqL K H b (ys.map oV)) (l1 : xs.length ≤ 100000) (l2 : ys.length ≤ 100000) (h : Q (.bl (decide (xs = ys))) H) : rEqU K (.ref a) (.ref b) H Q := by
  refine x_eqD (.lst h1 (dpOpts xs)) (.lst h2 (dpOpts ys)) ((Flat.lst (n := 0) (flatOpts xs) (by simpa using l1)).shaped (by decide)) ((Flat.lst (n := 0) (flatOpts ys) (by simpa using l2)).shaped (by decide)) ?_
  rw [PyData.eqv, eqvOpts]
  exact h
end SK
namespace A49
open PySem L2 SK
open PySem.W (Frag)
def topS (i : Nat) : Stmt := PySem.Challenge.pw_stayskept_k49_tight_distances.main.body.getD i (.Pass ⟨0, 0, 0, 0⟩)
abbrev s_is_whole : Stmt := topS 8
theorem sc_is_whole : FnScope ["value"] ["value"] (defScope s_is_whole) := ⟨rfl, rfl, rfl, by decide +kernel, rfl, by decide +kernel, by decide +kernel⟩
abbrev s_is_from_to : Stmt := topS 9
theorem sc_is_from_to : FnScope ["value", "low", "high"] ["value", "low", "high"] (defScope s_is_from_to) := ⟨rfl, rfl, rfl, by decide +kernel, rfl, by decide +kernel, by decide +kernel⟩
abbrev s_is_index : Stmt := topS 10
theorem sc_is_index : FnScope ["value", "many"] ["value", "many"] (defScope s_is_index) := ⟨rfl, rfl, rfl, by decide +kernel, rfl, by decide +kernel, by decide +kernel⟩
abbrev s_is_listed : Stmt := topS 11
theorem sc_is_listed : FnScope ["value"] ["value"] (defScope s_is_listed) := ⟨rfl, rfl, rfl, by decide +kernel, rfl, by decide +kernel, by decide +kernel⟩
abbrev s_is_tuple_of : Stmt := topS 12
theorem sc_is_tuple_of : FnScope ["value", "many"] ["value", "many"] (defScope s_is_tuple_of) := ⟨rfl, rfl, rfl, by decide +kernel, rfl, by decide +kernel, by decide +kernel⟩
abbrev s_is_bound : Stmt := topS 15
theorem sc_is_bound : FnScope ["many", "value"] ["many", "value"] (defScope s_is_bound) := ⟨rfl, rfl, rfl, by decide +kernel, rfl, by decide +kernel, by decide +kernel⟩
abbrev s_are_bounds : Stmt := topS 16
theorem sc_are_bounds : FnScope ["many", "value", "bound"] ["many", "value"] (defScope s_are_bounds) := ⟨rfl, rfl, rfl, by decide +kernel, rfl, by decide +kernel, by decide +kernel⟩
abbrev s_lengths_from : Stmt := topS 17
theorem sc_lengths_from : FnScope ["many", "start", "ways", "found", "_", "before", "one", "other", "length", "point"] ["many", "start", "ways"] (defScope s_lengths_from) := ⟨rfl, rfl, rfl, by decide +kernel, rfl, by decide +kernel, by decide +kernel⟩
abbrev s_last_lowered : Stmt := topS 18
theorem sc_last_lowered : FnScope ["many", "ways", "lengths", "last", "lowered", "_", "way", "one", "other", "length"] ["many", "ways"] (defScope s_last_lowered) := ⟨rfl, rfl, rfl, by decide +kernel, rfl, by decide +kernel, by decide +kernel⟩
abbrev s_ring_in : Stmt := topS 19
theorem sc_ring_in : FnScope ["many", "ways", "last", "point", "_", "ring", "at"] ["many", "ways"] (defScope s_ring_in) := ⟨rfl, rfl, rfl, by decide +kernel, rfl, by decide +kernel, by decide +kernel⟩
abbrev s_Plan_init : Stmt := inClass (topS 20) 0
theorem sc_Plan_init : FnScope ["self", "many", "bounds"] ["self", "many", "bounds"] (defScope s_Plan_init) := ⟨rfl, rfl, rfl, by decide +kernel, rfl, by decide +kernel, by decide +kernel⟩
abbrev s_Plan_ring : Stmt := inClass (topS 20) 4
theorem sc_Plan_ring : FnScope ["self"] ["self"] (defScope s_Plan_ring) := ⟨rfl, rfl, rfl, by decide +kernel, rfl, by decide +kernel, by decide +kernel⟩
abbrev s_Plan_tight : Stmt := inClass (topS 20) 6
theorem sc_Plan_tight : FnScope ["self", "one", "other", "point", "ring"] ["self", "one", "other"] (defScope s_Plan_tight) := ⟨rfl, rfl, rfl, by decide +kernel, rfl, by decide +kernel, by decide +kernel⟩
abbrev s_law_cell : Stmt := topS 22
theorem sc_law_cell : FnScope ["script", "k"] ["script", "k"] (defScope s_law_cell) := ⟨rfl, rfl, rfl, by decide +kernel, rfl, by decide +kernel, by decide +kernel⟩
abbrev s_law_box : Stmt := topS 23
theorem sc_law_box : FnScope ["great"] ["great"] (defScope s_law_box) := ⟨rfl, rfl, rfl, by decide +kernel, rfl, by decide +kernel, by decide +kernel⟩
abbrev s_law_take : Stmt := topS 24
theorem sc_law_take : FnScope ["box", "many", "digit", "mixed"] ["box", "many"] (defScope s_law_take) := ⟨rfl, rfl, rfl, by decide +kernel, rfl, by decide +kernel, by decide +kernel⟩
abbrev s_law_mixed : Stmt := topS 25
theorem sc_law_mixed : FnScope ["box", "items", "left", "found"] ["box", "items"] (defScope s_law_mixed) := ⟨rfl, rfl, rfl, by decide +kernel, rfl, by decide +kernel, by decide +kernel⟩
abbrev s_law_same : Stmt := topS 26
theorem sc_law_same : FnScope ["told", "due", "k"] ["told", "due"] (defScope s_law_same) := ⟨rfl, rfl, rfl, by decide +kernel, rfl, by decide +kernel, by decide +kernel⟩
abbrev s_law_whole : Stmt := topS 27
theorem sc_law_whole : FnScope ["value"] ["value"] (defScope s_law_whole) := ⟨rfl, rfl, rfl, by decide +kernel, rfl, by decide +kernel, by decide +kernel⟩
abbrev s_law_blamed : Stmt := topS 28
theorem sc_law_blamed : FnScope ["given", "value"] ["given", "value"] (defScope s_law_blamed) := ⟨rfl, rfl, rfl, by decide +kernel, rfl, by decide +kernel, by decide +kernel⟩
abbrev s_law_copy : Stmt := topS 29
theorem sc_law_copy : FnScope ["value"] ["value"] (defScope s_law_copy) := ⟨rfl, rfl, rfl, by decide +kernel, rfl, by decide +kernel, by decide +kernel⟩
abbrev s_law_far : Stmt := topS 30
theorem sc_law_far : FnScope ["many", "bounds", "far", "i", "j", "most", "k"] ["many", "bounds"] (defScope s_law_far) := ⟨rfl, rfl, rfl, by decide +kernel, rfl, by decide +kernel, by decide +kernel⟩
abbrev s_law_bounds : Stmt := topS 31
theorem sc_law_bounds : FnScope ["box", "many", "rings", "places", "found", "k", "i", "j", "order", "sums"] ["box", "many", "rings"] (defScope s_law_bounds) := ⟨rfl, rfl, rfl, by decide +kernel, rfl, by decide +kernel, by decide +kernel⟩
abbrev s_law_is_ring : Stmt := topS 32
theorem sc_law_is_ring : FnScope ["bounds", "value", "one", "item", "k"] ["bounds", "value"] (defScope s_law_is_ring) := ⟨rfl, rfl, rfl, by decide +kernel, rfl, by decide +kernel, by decide +kernel⟩
abbrev s_law_told : Stmt := topS 33
theorem sc_law_told : FnScope ["plan", "one", "other", "way", "told", "e"] ["plan", "one", "other", "way"] (defScope s_law_told) := ⟨rfl, rfl, rfl, by decide +kernel, rfl, by decide +kernel, by decide +kernel⟩
abbrev s_law_reached : Stmt := topS 34
theorem sc_law_reached : FnScope ["many", "bounds", "one", "other", "distance", "more", "due", "plan"] ["many", "bounds", "one", "other", "distance"] (defScope s_law_reached) := ⟨rfl, rfl, rfl, by decide +kernel, rfl, by decide +kernel, by decide +kernel⟩
abbrev s_law_blames : Stmt := topS 35
theorem sc_law_blames : FnScope ["told", "value"] ["told", "value"] (defScope s_law_blames) := ⟨rfl, rfl, rfl, by decide +kernel, rfl, by decide +kernel, by decide +kernel⟩
abbrev s_law_bad_right : Stmt := topS 36
theorem sc_law_bad_right : FnScope ["box", "plan", "many", "way", "odd", "first", "second"] ["box", "plan", "many", "way"] (defScope s_law_bad_right) := ⟨rfl, rfl, rfl, by decide +kernel, rfl, by decide +kernel, by decide +kernel⟩
abbrev s_law_right : Stmt := topS 37
theorem sc_law_right : FnScope ["box", "many", "rings", "way", "bounds", "plan", "far", "below", "pairs", "i", "j", "told", "turn"] ["box", "many", "rings", "way"] (defScope s_law_right) := ⟨rfl, rfl, rfl, by decide +kernel, rfl, by decide +kernel, by decide +kernel⟩
abbrev s_law : Stmt := topS 38
theorem sc_law : FnScope ["script", "k", "box", "way", "rings", "many"] ["script"] (defScope s_law) := ⟨rfl, rfl, rfl, by decide +kernel, rfl, by decide +kernel, by decide +kernel⟩
/-- where the text's classes and constants stand -/
structure Ad where
  C_StayError : Addr
  C_InvalidMany : Addr
  C_InvalidBounds : Addr
  C_InvalidPoint : Addr
  C_NoPlan : Addr
  C_Plan : Addr
structure Txt (K : Frag) (mg : Str → Option Value) (ad : Ad) : Prop where
  b_abs : mg "abs" = none
  b_all : mg "all" = none
  b_bool : mg "bool" = none
  b_int : mg "int" = none
  b_isinstance : mg "isinstance" = none
  b_len : mg "len" = none
  b_list : mg "list" = none
  b_max : mg "max" = none
  b_min : mg "min" = none
  b_range : mg "range" = none
  b_str : mg "str" = none
  b_sum : mg "sum" = none
  b_tuple : mg "tuple" = none
  cl_Plan : Cls K ad.C_Plan
  n_Plan_many : NoAttr K ad.C_Plan "many"
  n_Plan_bounds : NoAttr K ad.C_Plan "bounds"
  e_InvalidPoint : ∃ fI, SE.ErrC K mg "InvalidPoint" "InvalidPoint.__init__" "given" ad.C_InvalidPoint fI
  e_NoPlan : ∃ fI, SE.ErrC K mg "NoPlan" "NoPlan.__init__" "ring" ad.C_NoPlan fI
  k_MOST_POINTS : Glob mg "MOST_POINTS" (.int 30)
  x_NoPlan_InvalidPoint : PySem.W.exmOne K (.ref ad.C_NoPlan) (.ref ad.C_InvalidPoint) = some false
/-- the values of a call by the names other, one, in the order of the parameters -/
def kw_Plan_tight_other_one {α : Type} : List α → List α → List α
  | [x0], [x2, x1] => [x0, x1, x2]
  | _, _ => []
end A49
namespace A49
open PySem L2 SK
open PySem.W (Frag)
/-! # The promises of k49 -/
def tys : List String := ["NoneType", "bool", "int", "str", "list", "tuple", "dict"]
def sp_is_whole (K : Frag) (ad : Ad) : Sp := fun vs H Q _ => ∃ v n, vs = [v] ∧ TyX K H v (.type n) ∧ n ∈ tys ∧ Q (.bl (decide (n = "int"))) H
def sp_is_from_to (K : Frag) (ad : Ad) : Sp := fun vs H Q _ => ∃ i lo hi, vs = [.int i, .int lo, .int hi] ∧ Q (.bl (decide (lo ≤ i ∧ i ≤ hi))) H
def sp_is_index (K : Frag) (ad : Ad) : Sp := fun vs H Q _ => ∃ v many, vs = [v, .int many] ∧ ((∃ i, v = .int i ∧ Q (.bl (decide (0 ≤ i ∧ i < many))) H) ∨ ∃ n, TyX K H v (.type n) ∧ n ∈ tys ∧ n ≠ "int" ∧ Q (.bl false) H)
def sp_is_listed (K : Frag) (ad : Ad) : Sp := fun vs H Q _ => ∃ v n, vs = [v] ∧ TyX K H v (.type n) ∧ n ∈ tys ∧ ∀ H', Mod [] H H' → Q (.bl (decide (n = "list") || decide (n = "tuple"))) H'
def sp_is_tuple_of (K : Frag) (ad : Ad) : Sp := fun vs H Q _ => ∃ a xs m, vs = [.ref a, .int m] ∧ SqT K H a xs ∧ Q (.bl (decide ((xs.length : Int) = m))) H
/-- a bound -/
abbrev B := Int × Int × Int
def Ok (n : Int) (b : B) : Prop := 0 ≤ b.1 ∧ b.1 < n ∧ 0 ≤ b.2.1 ∧ b.2.1 < n ∧ b.1 ≠ b.2.1
def Trp (K : Frag) (H : Hp) (v : V) (b : B) : Prop := ∃ a, v = .ref a ∧ SqT K H a [.int b.1, .int b.2.1, .int b.2.2]
def Trps (K : Frag) (H : Hp) (vs : List V) (bs : List B) : Prop := Paired (Trp K H) vs bs
theorem trp_grow {K : Frag} {H H' : Hp} {v : V} {b : B} (g : Grow H H') (h : Trp K H v b) : Trp K H' v b := by
  obtain ⟨a, e, h⟩ := h
  exact ⟨a, e, g.sqT h⟩
theorem trps_grow {K : Frag} {H H' : Hp} {vs : List V} {bs : List B} (g : Grow H H') (h : Trps K H vs bs) : Trps K H' vs bs := L2.Paired.mapP h fun _ _ z => trp_grow g z
theorem stab_trps {K : Frag} {vs : List V} {bs : List B} : Stab (fun H => Trps K H vs bs) := fun _ _ g h => trps_grow g h
def sp_is_bound (K : Frag) (ad : Ad) : Sp := fun vs H Q _ => ∃ n v b, vs = [.int n, v] ∧ Trp K H v b ∧ Ok n b ∧ Q (.bl true) H
def sp_are_bounds (K : Frag) (ad : Ad) : Sp := fun vs H Q _ => ∃ n a us bs, vs = [.int n, .ref a] ∧ SqL K H a us ∧ Trps K H us bs ∧ (∀ b ∈ bs, Ok n b) ∧ us.length ≤ 1000 ∧ ∀ H', Mod [] H H' → Q (.bl true) H'
/-! the mirrors -/
/-- one bound of a round -/
def better (v : Int) : Option Int → Bool
  | none => true
  | some y => decide (v < y)
def relax (f : List (Option Int)) (b : B) : List (Option Int) :=
  match f.getD b.1.toNat none with
  | none => f
  | some x => if better (x + b.2.2) (f.getD b.2.1.toNat none) = true then f.set b.2.1.toNat (some (x + b.2.2)) else f
def round (bs : List B) (f : List (Option Int)) : List (Option Int) := bs.foldl relax f
def rounds (bs : List B) : Nat → List (Option Int) → List (Option Int)
  | 0, f => f
  | k + 1, f => rounds bs k (round bs f)
def begin0 (n : Nat) (s : Int) : List (Option Int) := (List.range n).map fun (i : Nat) => if (i : Int) = s then some 0 else none
def lengths (bs : List B) (n : Nat) (s : Int) : List (Option Int) := rounds bs (n - 1) (begin0 n s)
def sp_lengths_from (K : Frag) (ad : Ad) : Sp := fun vs H Q _ => ∃ (n : Nat) (s : Int) (a : Addr) (us : List V) (bs : List B), vs = [.int n, .int s, .ref a] ∧ SqT K H a us ∧ Trps K H us bs ∧ (∀ b ∈ bs, Ok n b) ∧ us.length ≤ 1000 ∧ 1 ≤ n ∧ n ≤ 30 ∧ 0 ≤ s ∧ s < n ∧
  ∀ p H', H p = none → Mod [] H H' → H' p = some (.lst ((lengths bs n s).map oV)) → Q (.ref p) H'
/-! walks: from i to j, of a length, by so many bounds -/
inductive Wk (bs : List B) : Int → Int → Int → Nat → Prop
  | nil (i : Int) : Wk bs i i 0 0
  | snoc {i j c : Int} {k : Nat} {b : B} : Wk bs i b.1 c k → b ∈ bs → j = b.2.1 → Wk bs i j (c + b.2.2) (k + 1)
/-- no ring is below 0 -/
def Free (bs : List B) : Prop := ∀ i c k, Wk bs i i c k → 0 ≤ c
/-- a list of bounds that lead round, together below 0 -/
def Ring (bs rs : List B) : Prop := rs ≠ [] ∧ (∀ r ∈ rs, r ∈ bs) ∧ (∀ k, k < rs.length → ∃ r q, rs[k]? = some r ∧ rs[(k + 1) % rs.length]? = some q ∧ r.2.1 = q.1) ∧ (rs.map (·.2.2)).sum < 0
/-- one bound of a round that lowers: the lengths, the last bounds, the point -/
structure Lo where
  len : List Int
  last : List (Option (V × B))
  low : Option Int
def lower (s : Lo) (w : V × B) : Lo :=
  if s.len.getD w.2.1.toNat 0 + w.2.2.2 < s.len.getD w.2.2.1.toNat 0 then
    ⟨s.len.set w.2.2.1.toNat (s.len.getD w.2.1.toNat 0 + w.2.2.2), s.last.set w.2.2.1.toNat (some w), some w.2.2.1⟩
  else s
def lowRound (ws : List (V × B)) (s : Lo) : Lo := ws.foldl lower { s with low := none }
/-- the rounds, ended by one that lowers nothing -/
def lowRounds (ws : List (V × B)) : Nat → Lo → Lo
  | 0, s => s
  | k + 1, s => let s' := lowRound ws s; if s'.low = none then s' else lowRounds ws k s'
def lows (ws : List (V × B)) (n : Nat) : Lo := lowRounds ws n ⟨List.replicate n 0, List.replicate n none, none⟩
def wV : Option (V × B) → V
  | none => .non
  | some w => w.1
def sp_last_lowered (K : Frag) (ad : Ad) : Sp := fun vs H Q _ => ∃ (n : Nat) (a : Addr) (ws : List (V × B)), vs = [.int n, .ref a] ∧ SqT K H a (ws.map (·.1)) ∧ Trps K H (ws.map (·.1)) (ws.map (·.2)) ∧ (∀ w ∈ ws, Ok n w.2) ∧ ws.length ≤ 1000 ∧ 1 ≤ n ∧ n ≤ 30 ∧
  ∀ t p H', H p = none → H t = none → t ≠ p → Mod [] H H' → H' t = some (.tup [.ref p, oV (lows ws n).low]) → H' p = some (.lst ((lows ws n).last.map wV)) → Q (.ref t) H'
def sp_ring_in (K : Frag) (ad : Ad) : Sp := fun vs H Q _ => ∃ (n : Nat) (a : Addr) (us : List V) (bs : List B), vs = [.int n, .ref a] ∧ SqT K H a us ∧ Trps K H us bs ∧ (∀ b ∈ bs, Ok n b) ∧ us.length ≤ 1000 ∧ 1 ≤ n ∧ n ≤ 30 ∧
  (∀ H', Mod [] H H' → Free bs → Q .non H') ∧ ∀ p ps rs H', H p = none → Mod [] H H' → H' p = some (.lst ps) → Trps K H' ps rs → Ring bs rs → rs.length ≤ n → Q (.ref p) H'
def planF (n : Nat) (t : Addr) : List (Str × V) := [("many", .int n), ("bounds", .ref t)]
/-- a plan at p -/
def PlanAt (K : Frag) (ad : Ad) (H : Hp) (p : Addr) (n : Nat) (bs : List B) : Prop := ∃ dx t us, H p = some (.ins ad.C_Plan dx (planF n t)) ∧ H t = some (.tup us) ∧ Trps K H us bs ∧ us.length ≤ 1000
def sp_Plan_init (K : Frag) (ad : Ad) : Sp := fun vs H Q _ => ∃ (p dx a : Addr) (n : Nat) (us : List V) (bs : List B), vs = [.ref p, .int n, .ref a] ∧ H p = some (.ins ad.C_Plan dx []) ∧ SqL K H a us ∧ a ≠ p ∧ Trps K H us bs ∧ (∀ b ∈ bs, Ok n b) ∧ us.length ≤ 1000 ∧ 1 ≤ n ∧ n ≤ 30 ∧
  ∀ H', Mod [p] H H' → PlanAt K ad H' p n bs → Q .non H'
def sp_Plan_ring (K : Frag) (ad : Ad) : Sp := fun vs H Q _ => ∃ (p : Addr) (n : Nat) (bs : List B), vs = [.ref p] ∧ PlanAt K ad H p n bs ∧ (∀ b ∈ bs, Ok n b) ∧ 1 ≤ n ∧ n ≤ 30 ∧
  (∀ H', Mod [] H H' → Free bs → Q .non H') ∧ ∀ q ps rs H', H q = none → Mod [] H H' → H' q = some (.lst ps) → Trps K H' ps rs → Ring bs rs → rs.length ≤ n → Q (.ref q) H'
/-- a value that is a point, or none -/
def Pt (K : Frag) (H : Hp) (n : Int) (v : V) : Prop := ∃ i, v = .int i ∧ 0 ≤ i ∧ i < n
def NoPt (K : Frag) (H : Hp) (n : Int) (v : V) : Prop := (∃ i, v = .int i ∧ ¬ (0 ≤ i ∧ i < n)) ∨ ∃ m, TyX K H v (.type m) ∧ m ∈ tys ∧ m ≠ "int"
/-- what tight gives, or raises -/
def Tight (K : Frag) (ad : Ad) (n : Nat) (bs : List B) (x y : V) (H : Hp) (Q : VK) (E : XK) : Prop :=
  (NoPt K H n x ∧ ∀ d H', H d = none → Mod [] H H' → H' d = some (.xd [("given", x)]) → E (.ref ad.C_InvalidPoint) (some d) H') ∨
  (Pt K H n x ∧ NoPt K H n y ∧ ∀ d H', H d = none → Mod [] H H' → H' d = some (.xd [("given", y)]) → E (.ref ad.C_InvalidPoint) (some d) H') ∨
  (∃ i j, x = .int i ∧ y = .int j ∧ 0 ≤ i ∧ i < n ∧ 0 ≤ j ∧ j < n ∧
    (∀ H', Mod [] H H' → Free bs → Q (oV ((lengths bs n i).getD j.toNat none)) H') ∧
    ∀ d q ps rs H', Mod [] H H' → H d = none → H q = none → H' d = some (.xd [("ring", .ref q)]) → H' q = some (.lst ps) → Trps K H' ps rs → Ring bs rs → rs.length ≤ n → E (.ref ad.C_NoPlan) (some d) H')
def sp_Plan_tight (K : Frag) (ad : Ad) : Sp := fun vs H Q E => ∃ (p : Addr) (n : Nat) (bs : List B) (x y : V), vs = [.ref p, x, y] ∧ PlanAt K ad H p n bs ∧ (∀ b ∈ bs, Ok n b) ∧ 1 ≤ n ∧ n ≤ 30 ∧ Tight K ad n bs x y H Q E
/-! the law's own -/
def BoxOk (n : Nat) (o : HO) : Prop := ∃ (g : Int) (f : Bool) (m c : Int), o = .lst [.int g, .bl f, .int m, .int c] ∧ 0 ≤ g ∧ 0 ≤ m ∧ m < 2147483648 ∧ 0 ≤ c ∧ c ≤ n
theorem BoxOk.more {n m : Nat} {o : HO} (h : BoxOk n o) (l : n ≤ m) : BoxOk m o := by
  obtain ⟨g, f, a, c, e, h1, h2, h3, h4, h5⟩ := h
  exact ⟨g, f, a, c, e, h1, h2, h3, h4, by omega⟩
theorem BoxOk.mut {n : Nat} {o : HO} (h : BoxOk n o) : Mut (some o) := by
  obtain ⟨g, f, a, c, rfl, _⟩ := h
  trivial
def sp_law_cell (K : Frag) (ad : Ad) : Sp := fun vs H Q _ => ∃ (a : Addr) (ns : List Int) (k : Int), vs = [.ref a, .int k] ∧ SqL K H a (ns.map V.int) ∧ ns.length ≤ 63 ∧ 0 ≤ k ∧ k ≤ 100 ∧ ∀ r H', Mod [] H H' → Q (.int r) H'
def sp_law_box (K : Frag) (ad : Ad) : Sp := fun vs H Q _ => ∃ g, vs = [.int g] ∧ ∀ p o H', H p = none → Mod [] H H' → H' p = some o → BoxOk 0 o → Q (.ref p) H'
def sp_law_take (K : Frag) (ad : Ad) : Sp := fun vs H Q _ => ∃ b o n many, vs = [.ref b, .int many] ∧ H b = some o ∧ BoxOk n o ∧ n ≤ 1000000 ∧ 0 < many ∧ many < 1000000000 ∧ ∀ r o' H', Mod [b] H H' → H' b = some o' → BoxOk (n + 1) o' → 0 ≤ r → r < many → Q (.int r) H'
/-- an int, or a bound -/
def Item (K : Frag) (H : Hp) (x : V) : Prop := (∃ i, x = .int i) ∨ ∃ b, Trp K H x b
theorem item_grow {K : Frag} {H H' : Hp} {x : V} (g : Grow H H') (h : Item K H x) : Item K H' x := h.imp id fun ⟨b, z⟩ => ⟨b, trp_grow g z⟩
theorem stab_items {K : Frag} {xs : List V} : Stab (fun H => ∀ x ∈ xs, Item K H x) := fun _ _ g h x hx => item_grow g (h x hx)
theorem items_dp {K : Frag} {H : Hp} : ∀ {xs : List V}, (∀ x ∈ xs, Item K H x) → ∃ ds, DpAll K H xs ds ∧ ∀ d ∈ ds, Flat 8 d
  | [], _ => ⟨[], .nil, by simp⟩
  | x :: xs, h => by
    obtain ⟨ds, h1, h2⟩ := items_dp (xs := xs) fun y hy => h y (List.mem_cons_of_mem _ hy)
    rcases h x List.mem_cons_self with ⟨i, rfl⟩ | ⟨b, a, rfl, hs⟩
    · exact ⟨.int i :: ds, .cons (.int i) h1, fun d hd => (List.mem_cons.mp hd).elim (fun e => by subst e; exact .int) (h2 d)⟩
    · refine ⟨.tuple [.int b.1, .int b.2.1, .int b.2.2] :: ds, .cons (.tup hs (.cons (.int _) (.cons (.int _) (.cons (.int _) .nil)))) h1, fun d hd => (List.mem_cons.mp hd).elim (fun e => ?_) (h2 d)⟩
      subst e
      refine Flat.mono (.tup (n := 0) (fun d hd => ?_) (by simp)) (by decide)
      simp only [List.mem_cons, List.not_mem_nil, or_false] at hd
      rcases hd with rfl | rfl | rfl <;> exact .int
def sp_law_mixed (K : Frag) (ad : Ad) : Sp := fun vs H Q _ => ∃ b o n a xs, vs = [.ref b, .ref a] ∧ H b = some o ∧ BoxOk n o ∧ n ≤ 900000 ∧ SqL K H a xs ∧ a ≠ b ∧ (∀ x ∈ xs, Item K H x) ∧ xs.length ≤ 1000 ∧
  ∀ p ys o' H', H p = none → Mod [b] H H' → H' p = some (.lst ys) → H' b = some o' → BoxOk (n + 1000) o' → ys.Perm xs → Q (.ref p) H'
def FlatN : Nat → PyData → Prop
  | 0, _ => False
  | n + 1, d => Flat n d
def sameAt (K : Frag) (n : Nat) : Sp := fun vs H Q _ => ∃ x y d, vs = [x, y] ∧ Dp K H x d ∧ Dp K H y d ∧ FlatN n d ∧ ∀ H', Mod [] H H' → Q (.bl true) H'
def sp_law_same (K : Frag) (ad : Ad) : Sp := sameAt K 4
def sp_law_whole (K : Frag) (ad : Ad) : Sp := fun vs H Q _ => ∃ v n, vs = [v] ∧ TyX K H v (.type n) ∧ n ∈ tys ∧ Q (.bl (decide (n = "int"))) H
/-- odd values, and how they stand: a list of their own may grow -/
inductive Odd (K : Frag) (n : Int) : V → Hp → Prop
  | int {H} (i : Int) : Odd K n (.int i) H
  | bl {H} (b : Bool) : Odd K n (.bl b) H
  | non {H} : Odd K n .non H
  | str {H} {s : Str} : PyData.canLay0 (.str s) = true → s.length ≤ 1000 → Odd K n (.str s) H
  | lst {H} {a : Addr} {ns : List Int} : H a = some (.lst (ns.map V.int)) → ns.length ≤ 10 → Odd K n (.ref a) H
  | tup {H} {a : Addr} {ns : List Int} : H a = some (.tup (ns.map V.int)) → ns.length ≤ 10 → Odd K n (.ref a) H
/-- what may be written of a value: a list itself -/
def own1 : V → List Addr
  | .ref a => [a]
  | _ => []
def sp_law_blamed (K : Frag) (ad : Ad) : Sp := fun vs H Q _ => ∃ x, vs = [x, x] ∧ Odd K 0 x H ∧ ∀ H', Mod (own1 x) H H' → Q (.bl true) H'
def sp_law_copy (K : Frag) (ad : Ad) : Sp := fun vs H Q _ => ∃ x, vs = [x] ∧ Odd K 0 x H ∧ (own1 x = [] → Q x H) ∧ (∀ (a : Addr) (ns : List Int), x = .ref a → H a = some (.lst (ns.map V.int)) → ∀ p H', H p = none → Mod [] H H' → H' p = some (.lst (ns.map V.int)) → Q (.ref p) H') ∧ ∀ (a : Addr) (ns : List Int), x = .ref a → H a = some (.tup (ns.map V.int)) → Q x H
/-- what _law_told gives -/
def Told (K : Frag) (ad : Ad) (n : Nat) (bs : List B) (x y : V) (H : Hp) (Q : VK) : Prop :=
  (NoPt K H n x ∧ ∀ t H', H t = none → Mod [] H H' → H' t = some (.tup [.str "point", x]) → Q (.ref t) H') ∨
  (Pt K H n x ∧ NoPt K H n y ∧ ∀ t H', H t = none → Mod [] H H' → H' t = some (.tup [.str "point", y]) → Q (.ref t) H') ∨
  (∃ i j, x = .int i ∧ y = .int j ∧ 0 ≤ i ∧ i < n ∧ 0 ≤ j ∧ j < n ∧
    (∀ H', Mod [] H H' → Free bs → Q (oV ((lengths bs n i).getD j.toNat none)) H') ∧
    ∀ t q ps rs H', H t = none → H q = none → Mod [] H H' → H' t = some (.tup [.str "ring", .ref q]) → H' q = some (.lst ps) → Trps K H' ps rs → Ring bs rs → rs.length ≤ n → Q (.ref t) H')
def sp_law_told (K : Frag) (ad : Ad) : Sp := fun vs H Q _ => ∃ (p : Addr) (n : Nat) (bs : List B) (x y : V) (way : Int), vs = [.ref p, x, y, .int way] ∧ PlanAt K ad H p n bs ∧ (∀ b ∈ bs, Ok n b) ∧ 1 ≤ n ∧ n ≤ 30 ∧ Told K ad n bs x y H Q
def sp_law_blames (K : Frag) (ad : Ad) : Sp := fun vs H Q _ => ∃ t x, vs = [.ref t, x] ∧ H t = some (.tup [.str "point", x]) ∧ Odd K 0 x H ∧ ∀ H', Mod (own1 x) H H' → Q (.bl true) H'
/-- the table of the least sums -/
def FarAt (H : Hp) (f : Addr) (rows : List Addr) (M : List (List (Option Int))) : Prop := H f = some (.lst (rows.map V.ref)) ∧ Paired (fun r m => H r = some (.lst (m.map oV))) rows M
def sp_law_far (K : Frag) (ad : Ad) : Sp := fun vs H Q _ => ∃ (n : Nat) (a : Addr) (us : List V) (bs : List B), vs = [.int n, .ref a] ∧ SqL K H a us ∧ Trps K H us bs ∧ (∀ b ∈ bs, Ok n b) ∧ us.length ≤ 1000 ∧ 1 ≤ n ∧ n ≤ 30 ∧
  ∀ t f rows M below H', Mod [] H H' → H t = none → H f = none → (∀ r ∈ rows, H r = none) → H' t = some (.tup [.ref f, .bl below]) → FarAt H' f rows M → M.length = n → (∀ m ∈ M, m.length = n) → (below = true → ¬ Free bs) →
    (below = false → Free bs ∧ ∀ i j, i < n → j < n → (M.getD i []).getD j none = (lengths bs n (i : Int)).getD j none) → Q (.ref t) H'
def sp_law_bounds (K : Frag) (ad : Ad) : Sp := fun vs H Q _ => ∃ (b : Addr) (o : HO) (m n : Nat) (rings : Bool), vs = [.ref b, .int n, .bl rings] ∧ H b = some o ∧ BoxOk m o ∧ m ≤ 500000 ∧ 1 ≤ n ∧ n ≤ 30 ∧ (rings = true → 1 < n) ∧
  ∀ p us bs o' H', H p = none → Mod [b] H H' → H' b = some o' → BoxOk (m + 10000) o' → H' p = some (.lst us) → Trps K H' us bs → (∀ b ∈ bs, Ok n b) → us.length ≤ 60 → Q (.ref p) H'
def sp_law_is_ring (K : Frag) (ad : Ad) : Sp := fun vs H Q _ => ∃ (a q : Addr) (us ps : List V) (bs rs : List B), vs = [.ref a, .ref q] ∧ SqL K H a us ∧ Trps K H us bs ∧ us.length ≤ 1000 ∧ SqL K H q ps ∧ Trps K H ps rs ∧ ps.length ≤ 1000 ∧ Ring bs rs ∧ ∀ H', Mod [] H H' → Q (.bl true) H'
def sp_law_reached (K : Frag) (ad : Ad) : Sp := fun vs H Q _ => ∃ (n : Nat) (a : Addr) (us : List V) (bs : List B) (i j d : Int), vs = [.int n, .ref a, .int i, .int j, .int d] ∧ H a = some (.lst us) ∧ Trps K H us bs ∧ (∀ b ∈ bs, Ok n b) ∧ us.length ≤ 100 ∧ 1 ≤ n ∧ n ≤ 30 ∧ 0 ≤ i ∧ i < n ∧ 0 ≤ j ∧ j < n ∧ i ≠ j ∧
  Free bs ∧ (lengths bs n i).getD j.toNat none = some d ∧ ∀ H', Mod [] H H' → Q (.bl true) H'
def sp_law_bad_right (K : Frag) (ad : Ad) : Sp := fun vs H Q _ => ∃ (b p : Addr) (o : HO) (m n : Nat) (bs : List B) (way : Int), vs = [.ref b, .ref p, .int n, .int way] ∧ H b = some o ∧ BoxOk m o ∧ m ≤ 900000 ∧ PlanAt K ad H p n bs ∧ (∀ b ∈ bs, Ok n b) ∧ 1 ≤ n ∧ n ≤ 30 ∧
  ∀ H' o', Mod [b] H H' → H' b = some o' → BoxOk (m + 100) o' → Q (.bl true) H'
def sp_law_right (K : Frag) (ad : Ad) : Sp := fun vs H Q _ => ∃ (b : Addr) (o : HO) (m n : Nat) (rings : Bool) (way : Int), vs = [.ref b, .int n, .bl rings, .int way] ∧ H b = some o ∧ BoxOk m o ∧ m ≤ 400000 ∧ 1 ≤ n ∧ n ≤ 30 ∧
  ∀ H' o', Mod [b] H H' → H' b = some o' → BoxOk (m + 100000) o' → Q (.bl true) H'
def sp_law (K : Frag) (ad : Ad) : Sp := fun vs H Q _ => ∃ (a : Addr) (ns : List Int), vs = [.ref a] ∧ SqL K H a (ns.map V.int) ∧ ns.length ≤ 63 ∧ ∀ H', Q (.bl true) H'
end A49
namespace A49
open PySem L2 SK
open PySem.W (Frag)
def t_is_whole (K : Frag) (ad : Ad) : TS :=
  (tRet (tAndT K (tCB (rIsiU K) (tCons (tVar 0) (tCons (tC (.ty "int")) tNil))) (tNotT K (tCB (rIsiU K) (tCons (tVar 0) (tCons (tC (.ty "bool")) tNil))))))
def t_is_from_to (K : Frag) (ad : Ad) : TS :=
  (tRet (tAndT K (tCallS (sp_is_whole K ad) EN (tCons (tVar 0) tNil)) (tChain rLeU rLeU (tVar 1) (tVar 0) (tVar 2))))
def t_is_index (K : Frag) (ad : Ad) : TS :=
  (tRet (tAndT K (tCallS (sp_is_whole K ad) EN (tCons (tVar 0) tNil)) (tChain rLeU rLtU (tC (.int 0)) (tVar 0) (tVar 1))))
def t_is_listed (K : Frag) (ad : Ad) : TS :=
  (tRet (tCB (rIsiU K) (tCons (tVar 0) (tCons (tTup (tCons (tC (.ty "list")) (tCons (tC (.ty "tuple")) tNil))) tNil))))
def t_is_tuple_of (K : Frag) (ad : Ad) : TS :=
  (tRet (tAndT K (tCB (rIsiU K) (tCons (tVar 0) (tCons (tC (.ty "tuple")) tNil))) (tOp (rEqU K) (tCB (rLenU K) (tCons (tVar 0) tNil)) (tVar 1))))
def t_is_bound (K : Frag) (ad : Ad) : TS :=
  (tSeq (tIfS (tOr (tNot (tTruth K (tCallS (sp_is_tuple_of K ad) EN (tCons (tVar 1) (tCons (tC (.int 3)) tNil))))) (tOr (tNot (tTruth K (tCallS (sp_is_index K ad) EN (tCons (tOp (rIx K) (tVar 1) (tC (.int 0))) (tCons (tVar 0) tNil))))) (tNot (tTruth K (tCallS (sp_is_index K ad) EN (tCons (tOp (rIx K) (tVar 1) (tC (.int 1))) (tCons (tVar 0) tNil))))))) (tRet (tC (.bl false))) tNext)
  (tRet (tAndT K (tOp (rNeU K) (tOp (rIx K) (tVar 1) (tC (.int 0))) (tOp (rIx K) (tVar 1) (tC (.int 1)))) (tCallS (sp_is_whole K ad) EN (tCons (tOp (rIx K) (tVar 1) (tC (.int 2))) tNil)))))
def t_are_bounds (K : Frag) (ad : Ad) : TS :=
  (tRet (tAndT K (tCallS (sp_is_listed K ad) EN (tCons (tVar 1) tNil)) (tCB (rAll K) (tCons (tLc (iSeq K (tVar 1)) (gName 2) tYes (tCallS (sp_is_bound K ad) EN (tCons (tVar 0) (tCons (tVar 2) tNil))) [2]) tNil))))
def t_lengths_from (K : Frag) (ad : Ad) : TS :=
  (tSeq (tAsg (tLc (iRng1 (tCons (tVar 0) tNil)) (gName 9) tYes (tIf (tTest (tOp (rEqU K) (tVar 9) (tVar 1))) (tC (.int 0)) (tC .non)) [9]) (gName 3))
  (tSeq (tFor (iRng1 (tCons (tOp rSubU (tVar 0) (tC (.int 1))) tNil)) (gName 4) (tSeq (tAsg (tCB (rListU K) (tCons (tVar 3) tNil)) (gName 5))
  (tSeq (tFor (iSeq K (tVar 2)) (gTup K 3 (gCons (gName 6) (gCons (gName 7) (gCons (gName 8) gNil)))) (tIfS (tAnd (tTest (tOp rNotU (tOp (rIx K) (tVar 3) (tVar 6)) (tC .non))) (tOr (tTest (tOp rIsU (tOp (rIx K) (tVar 3) (tVar 7)) (tC .non))) (tTest (tOp rLtU (tOp (rAddU K) (tOp (rIx K) (tVar 3) (tVar 6)) (tVar 8)) (tOp (rIx K) (tVar 3) (tVar 7)))))) (tAsg (tOp (rAddU K) (tOp (rIx K) (tVar 3) (tVar 6)) (tVar 8)) (gSub (tVar 3) (tVar 7) rSetL)) tNext))
  (tIfS (tTest (tOp (rEqU K) (tVar 3) (tVar 5))) (tRet (tVar 3)) tNext))))
  (tRet (tVar 3))))
def t_last_lowered (K : Frag) (ad : Ad) : TS :=
  (tSeq (tPar3 2 3 4 (tCons (tOp rMulU (tLst (tCons (tC (.int 0)) tNil)) (tVar 0)) (tCons (tOp rMulU (tLst (tCons (tC .non) tNil)) (tVar 0)) (tCons (tC .non) tNil))))
  (tSeq (tFor (iRng1 (tCons (tVar 0) tNil)) (gName 5) (tSeq (tAsg (tC .non) (gName 4))
  (tSeq (tFor (iSeq K (tVar 1)) (gName 6) (tSeq (tAsg (tVar 6) (gTup K 3 (gCons (gName 7) (gCons (gName 8) (gCons (gName 9) gNil)))))
  (tIfS (tTest (tOp rLtU (tOp (rAddU K) (tOp (rIx K) (tVar 2) (tVar 7)) (tVar 9)) (tOp (rIx K) (tVar 2) (tVar 8)))) (tSeq (tAsg (tOp (rAddU K) (tOp (rIx K) (tVar 2) (tVar 7)) (tVar 9)) (gSub (tVar 2) (tVar 8) rSetL))
  (tSeq (tAsg (tVar 6) (gSub (tVar 3) (tVar 8) rSetL))
  (tAsg (tVar 8) (gName 4)))) tNext)))
  (tIfS (tTest (tOp rIsU (tVar 4) (tC .non))) (tRet (tTup (tCons (tVar 3) (tCons (tC .non) tNil)))) tNext))))
  (tRet (tTup (tCons (tVar 3) (tCons (tVar 4) tNil))))))
def t_ring_in (K : Frag) (ad : Ad) : TS :=
  (tSeq (tAsg (tCallS (sp_last_lowered K ad) EN (tCons (tVar 0) (tCons (tVar 1) tNil))) (gTup K 2 (gCons (gName 2) (gCons (gName 3) gNil))))
  (tSeq (tIfS (tTest (tOp rIsU (tVar 3) (tC .non))) (tRet (tC .non)) tNext)
  (tSeq (tFor (iRng1 (tCons (tVar 0) tNil)) (gName 4) (tAsg (tOp (rIx K) (tOp (rIx K) (tVar 2) (tVar 3)) (tC (.int 0))) (gName 3)))
  (tSeq (tPar 5 6 (tCons (tLst (tCons (tOp (rIx K) (tVar 2) (tVar 3)) tNil)) (tCons (tOp (rIx K) (tOp (rIx K) (tVar 2) (tVar 3)) (tC (.int 0))) tNil)))
  (tSeq (tWhile (tTest (tOp (rNeU K) (tVar 6) (tVar 3))) (tSeq (tDrop (tBM K "list" rAppend (tVar 5) (tCons (tOp (rIx K) (tVar 2) (tVar 6)) tNil)))
  (tAsg (tOp (rIx K) (tOp (rIx K) (tVar 2) (tVar 6)) (tC (.int 0))) (gName 6))))
  (tRet (tRevL K (tVar 5))))))))
def t_Plan_init (K : Frag) (ad : Ad) : TS :=
  (tSeq (tIfS (tNot (tTruth K (tCallS (sp_is_from_to K ad) EN (tCons (tVar 1) (tCons (tC (.int 1)) (tCons (tC (.int 30)) tNil)))))) tNever tNext)
  (tSeq (tIfS (tNot (tTruth K (tCallS (sp_are_bounds K ad) EN (tCons (tVar 1) (tCons (tVar 2) tNil))))) tNever tNext)
  (tSeq (sFld K (tVar 0) (tVar 1) "many")
  (sFld K (tVar 0) (tCB (rTupleU K) (tCons (tVar 2) tNil)) "bounds"))))
def t_Plan_ring (K : Frag) (ad : Ad) : TS :=
  (tRet (tCallS (sp_ring_in K ad) EN (tCons (tFld K (tVar 0) "many") (tCons (tFld K (tVar 0) "bounds") tNil))))
def t_Plan_tight (K : Frag) (ad : Ad) (E : XK) : TS :=
  (tSeq (tFor (iSeq K (tTup (tCons (tVar 1) (tCons (tVar 2) tNil)))) (gName 3) (tIfS (tNot (tTruth K (tCallS (sp_is_index K ad) EN (tCons (tVar 3) (tCons (tFld K (tVar 0) "many") tNil))))) (tRaiseE ad.C_InvalidPoint "given" (fun cls d _ H => E cls d H) (tCons (tVar 3) tNil)) tNext))
  (tSeq (tAsg (tMeS ad.C_Plan "ring" (sp_Plan_ring K ad) EN (tVar 0) tNil) (gName 4))
  (tSeq (tIfS (tTest (tOp rNotU (tVar 4) (tC .non))) (tRaiseE ad.C_NoPlan "ring" (fun cls d _ H => E cls d H) (tCons (tVar 4) tNil)) tNext)
  (tRet (tOp (rIx K) (tCallS (sp_lengths_from K ad) EN (tCons (tFld K (tVar 0) "many") (tCons (tVar 1) (tCons (tFld K (tVar 0) "bounds") tNil)))) (tVar 2))))))
def t_law_cell (K : Frag) (ad : Ad) : TS :=
  (tRet (tIf (tTest (tOp rLtU (tVar 1) (tCB (rLenU K) (tCons (tVar 0) tNil)))) (tOp (rIx K) (tVar 0) (tVar 1)) (tOp (rAddU K) (tOp rMulU (tC (.int 6089)) (tVar 1)) (tOp rModU (tCB (rSum K) (tCons (tSl (rSlU K) (tVar 0) tNoPart (tPart (tC (.int 1)))) tNil)) (tC (.int 1000033))))))
def t_law_box (K : Frag) (ad : Ad) : TS :=
  (tRet (tLst (tCons (tCB rAbs (tCons (tVar 0) tNil)) (tCons (tOp rGeU (tCB rAbs (tCons (tVar 0) tNil)) (tOp rPowU (tC (.int 10)) (tC (.int 18)))) (tCons (tOp rModU (tCB rIntU (tCons (tCB rAbs (tCons (tVar 0) tNil)) tNil)) (tC (.int 2147483629))) (tCons (tC (.int 0)) tNil))))))
def t_law_take (K : Frag) (ad : Ad) : TS :=
  (tSeq (tIfS (tAnd (tTruth K (tOp (rIx K) (tVar 0) (tC (.int 1)))) (tTest (tOp rGtU (tOp (rIx K) (tVar 0) (tC (.int 0))) (tC (.int 0))))) (tSeq (tAsg (tOp rModU (tCB rIntU (tCons (tOp (rIx K) (tVar 0) (tC (.int 0))) tNil)) (tVar 1)) (gName 2))
  (tSeq (tAsg (tOp rDivU (tOp (rIx K) (tVar 0) (tC (.int 0))) (tVar 1)) (gSub (tVar 0) (tC (.int 0)) rSetL))
  (tRet (tVar 2)))) tNext)
  (tSeq (tAsg (tOp (rAddU K) (tOp (rIx K) (tVar 0) (tC (.int 3))) (tC (.int 1))) (gSub (tVar 0) (tC (.int 3)) rSetL))
  (tSeq (tAsg (tOp rModU (tCB rIntU (tCons (tOp rPowU (tOp (rAddU K) (tOp (rAddU K) (tOp (rIx K) (tVar 0) (tC (.int 2))) (tOp rMulU (tC (.int 15485863)) (tOp (rIx K) (tVar 0) (tC (.int 3))))) (tC (.int 179424673))) (tC (.int 5))) tNil)) (tC (.int 2147483647))) (gName 3))
  (tRet (tOp rModU (tOp rDivU (tOp rModU (tCB rIntU (tCons (tOp rPowU (tOp (rAddU K) (tOp rMulU (tVar 3) (tC (.int 48271))) (tOp rMulU (tC (.int 104729)) (tOp (rIx K) (tVar 0) (tC (.int 3))))) (tC (.int 3))) tNil)) (tC (.int 2147483587))) (tC (.int 64))) (tVar 1))))))
def t_law_mixed (K : Frag) (ad : Ad) : TS :=
  (tSeq (tPar 2 3 (tCons (tCB (rListU K) (tCons (tVar 1) tNil)) (tCons (tLst tNil) tNil)))
  (tSeq (tWhile (tTest (tOp (rNeU K) (tVar 2) (tLst tNil))) (tDrop (tBM K "list" rAppend (tVar 3) (tCons (tBM K "list" rPopAt (tVar 2) (tCons (tCallS (sp_law_take K ad) EN (tCons (tVar 0) (tCons (tCB (rLenU K) (tCons (tVar 2) tNil)) tNil))) tNil)) tNil))))
  (tRet (tVar 3))))
def t_law_same (K : Frag) (ad : Ad) (spR : Sp) : TS :=
  (tSeq (tIfS (tOr (tTest (tOp rIsU (tVar 1) (tC .non))) (tTruth K (tCB (rIsiU K) (tCons (tVar 1) (tCons (tC (.ty "bool")) tNil))))) (tRet (tIf (tTest (tOp rIsU (tVar 1) (tC .non))) (tOp rIsU (tVar 0) (tC .non)) (tAndT K (tCB (rIsiU K) (tCons (tVar 0) (tCons (tC (.ty "bool")) tNil))) (tOp (rEqU K) (tOp rIsU (tVar 0) (tC (.bl true))) (tOp rIsU (tVar 1) (tC (.bl true))))))) tNext)
  (tSeq (tIfS (tTruth K (tCB (rIsiU K) (tCons (tVar 1) (tCons (tC (.ty "int")) tNil)))) (tRet (tAndT K (tCB (rIsiU K) (tCons (tVar 0) (tCons (tC (.ty "int")) tNil))) (tAndT K (tNotT K (tCB (rIsiU K) (tCons (tVar 0) (tCons (tC (.ty "bool")) tNil)))) (tOp (rEqU K) (tOp rSubU (tCB rIntU (tCons (tVar 0) tNil)) (tVar 1)) (tC (.int 0)))))) tNext)
  (tSeq (tIfS (tTruth K (tCB (rIsiU K) (tCons (tVar 1) (tCons (tC (.ty "str")) tNil)))) (tRet (tAndT K (tCB (rIsiU K) (tCons (tVar 0) (tCons (tC (.ty "str")) tNil))) (tAndT K (tOp (rEqU K) (tCB (rLenU K) (tCons (tVar 0) tNil)) (tCB (rLenU K) (tCons (tVar 1) tNil))) (tOp (rEqU K) (tLc (iRng1 (tCons (tCB (rLenU K) (tCons (tVar 1) tNil)) tNil)) (gName 2) (tTest (tOp (rNeU K) (tSl (rSlU K) (tVar 0) (tPart (tVar 2)) (tPart (tOp (rAddU K) (tVar 2) (tC (.int 1))))) (tOp (rIx K) (tVar 1) (tVar 2)))) (tVar 2) [2]) (tLst tNil))))) tNext)
  (tSeq (tIfS (tOr (tTest (tOp (rNeU K) (tCB (rIsiU K) (tCons (tVar 0) (tCons (tC (.ty "list")) tNil))) (tCB (rIsiU K) (tCons (tVar 1) (tCons (tC (.ty "list")) tNil))))) (tTest (tOp (rNeU K) (tCB (rIsiU K) (tCons (tVar 0) (tCons (tC (.ty "tuple")) tNil))) (tCB (rIsiU K) (tCons (tVar 1) (tCons (tC (.ty "tuple")) tNil)))))) (tRet (tC (.bl false))) tNext)
  (tRet (tAndT K (tOp (rEqU K) (tCB (rLenU K) (tCons (tVar 0) tNil)) (tCB (rLenU K) (tCons (tVar 1) tNil))) (tOp (rEqU K) (tLc (iRng1 (tCons (tCB (rLenU K) (tCons (tVar 1) tNil)) tNil)) (gName 2) (tNot (tTruth K (tCallS spR EN (tCons (tOp (rIx K) (tVar 0) (tVar 2)) (tCons (tOp (rIx K) (tVar 1) (tVar 2)) tNil))))) (tVar 2) [2]) (tLst tNil))))))))
def t_law_whole (K : Frag) (ad : Ad) : TS :=
  (tRet (tAndT K (tCB (rIsiU K) (tCons (tVar 0) (tCons (tC (.ty "int")) tNil))) (tNotT K (tCB (rIsiU K) (tCons (tVar 0) (tCons (tC (.ty "bool")) tNil))))))
def t_law_blamed (K : Frag) (ad : Ad) : TS :=
  (tSeq (tIfS (tNot (tTruth K (tCallS (sp_law_same K ad) EN (tCons (tVar 0) (tCons (tVar 1) tNil))))) (tRet (tC (.bl false))) tNext)
  (tSeq (tIfS (tTruth K (tCB (rIsiU K) (tCons (tVar 1) (tCons (tC (.ty "list")) tNil)))) (tDrop (tBM K "list" rAppend (tVar 1) (tCons (tC (.int 7)) tNil))) tNext)
  (tRet (tCallS (sp_law_same K ad) EN (tCons (tVar 0) (tCons (tVar 1) tNil))))))
def t_law_copy (K : Frag) (ad : Ad) : TS :=
  (tRet (tIf (tTruth K (tCB (rIsiU K) (tCons (tVar 0) (tCons (tC (.ty "list")) tNil)))) (tCB (rListU K) (tCons (tVar 0) tNil)) (tVar 0)))
def t_law_far (K : Frag) (ad : Ad) : TS :=
  (tSeq (tAsg (tLc (iRng1 (tCons (tVar 0) tNil)) (gName 3) tYes (tLc (iRng1 (tCons (tVar 0) tNil)) (gName 4) tYes (tIf (tTest (tOp (rEqU K) (tVar 3) (tVar 4))) (tC (.int 0)) (tC .non)) [4]) [3]) (gName 2))
  (tSeq (tFor (iSeq K (tVar 1)) (gTup K 3 (gCons (gName 3) (gCons (gName 4) (gCons (gName 5) gNil)))) (tIfS (tOr (tTest (tOp rIsU (tOp (rIx K) (tOp (rIx K) (tVar 2) (tVar 3)) (tVar 4)) (tC .non))) (tTest (tOp rLtU (tVar 5) (tOp (rIx K) (tOp (rIx K) (tVar 2) (tVar 3)) (tVar 4))))) (tAsg (tVar 5) (gSub (tOp (rIx K) (tVar 2) (tVar 3)) (tVar 4) rSetL)) tNext))
  (tSeq (tFor (iRng1 (tCons (tVar 0) tNil)) (gName 6) (tFor (iRng1 (tCons (tVar 0) tNil)) (gName 3) (tIfS (tTest (tOp rNotU (tOp (rIx K) (tOp (rIx K) (tVar 2) (tVar 3)) (tVar 6)) (tC .non))) (tFor (iRng1 (tCons (tVar 0) tNil)) (gName 4) (tIfS (tAnd (tTest (tOp rNotU (tOp (rIx K) (tOp (rIx K) (tVar 2) (tVar 6)) (tVar 4)) (tC .non))) (tOr (tTest (tOp rIsU (tOp (rIx K) (tOp (rIx K) (tVar 2) (tVar 3)) (tVar 4)) (tC .non))) (tTest (tOp rLtU (tOp (rAddU K) (tOp (rIx K) (tOp (rIx K) (tVar 2) (tVar 3)) (tVar 6)) (tOp (rIx K) (tOp (rIx K) (tVar 2) (tVar 6)) (tVar 4))) (tOp (rIx K) (tOp (rIx K) (tVar 2) (tVar 3)) (tVar 4)))))) (tAsg (tOp (rAddU K) (tOp (rIx K) (tOp (rIx K) (tVar 2) (tVar 3)) (tVar 6)) (tOp (rIx K) (tOp (rIx K) (tVar 2) (tVar 6)) (tVar 4))) (gSub (tOp (rIx K) (tVar 2) (tVar 3)) (tVar 4) rSetL)) tNext)) tNext)))
  (tRet (tTup (tCons (tVar 2) (tCons (tOp (rNeU K) (tLc (iRng1 (tCons (tVar 0) tNil)) (gName 3) (tTest (tOp rLtU (tOp (rIx K) (tOp (rIx K) (tVar 2) (tVar 3)) (tVar 3)) (tC (.int 0)))) (tVar 3) [3]) (tLst tNil)) tNil)))))))
def t_law_bounds (K : Frag) (ad : Ad) : TS :=
  (tSeq (tIfS (tTest (tOp (rEqU K) (tVar 1) (tC (.int 1)))) (tRet (tLst tNil)) tNext)
  (tSeq (tAsg (tLc (iRng1 (tCons (tVar 1) tNil)) (gName 5) tYes (tCallS (sp_law_take K ad) EN (tCons (tVar 0) (tCons (tC (.int 40)) tNil))) [5]) (gName 3))
  (tSeq (tAsg (tLst tNil) (gName 4))
  (tSeq (tFor (iRng1 (tCons (tCallS (sp_law_take K ad) EN (tCons (tVar 0) (tCons (tOp (rAddU K) (tOp rMulU (tC (.int 2)) (tVar 1)) (tC (.int 3))) tNil))) tNil)) (gName 5) (tSeq (tAsg (tCallS (sp_law_take K ad) EN (tCons (tVar 0) (tCons (tVar 1) tNil))) (gName 6))
  (tSeq (tAsg (tOp rModU (tCB rIntU (tCons (tOp (rAddU K) (tOp (rAddU K) (tVar 6) (tC (.int 1))) (tCallS (sp_law_take K ad) EN (tCons (tVar 0) (tCons (tOp rSubU (tVar 1) (tC (.int 1))) tNil)))) tNil)) (tVar 1)) (gName 7))
  (tDrop (tBM K "list" rAppend (tVar 4) (tCons (tTup (tCons (tVar 6) (tCons (tVar 7) (tCons (tOp (rAddU K) (tOp rSubU (tOp (rIx K) (tVar 3) (tVar 7)) (tOp (rIx K) (tVar 3) (tVar 6))) (tCallS (sp_law_take K ad) EN (tCons (tVar 0) (tCons (tC (.int 5)) tNil)))) tNil)))) tNil))))))
  (tSeq (tIfS (tTest (tOp (rEqU K) (tCallS (sp_law_take K ad) EN (tCons (tVar 0) (tCons (tC (.int 2)) tNil))) (tC (.int 0)))) (tDrop (tBM K "list" rExtend (tVar 4) (tCons (tLc (iRng2 (tCons (tC (.int 1)) (tCons (tVar 1) tNil))) (gName 5) tYes (tTup (tCons (tVar 5) (tCons (tC (.int 0)) (tCons (tOp (rAddU K) (tOp rSubU (tOp (rIx K) (tVar 3) (tC (.int 0))) (tOp (rIx K) (tVar 3) (tVar 5))) (tCallS (sp_law_take K ad) EN (tCons (tVar 0) (tCons (tC (.int 9)) tNil)))) tNil)))) [5]) tNil))) tNext)
  (tSeq (tIfS (tTruth K (tVar 2)) (tSeq (tAsg (tSl (rSlU K) (tCallS (sp_law_mixed K ad) EN (tCons (tVar 0) (tCons (tLstRg (tRg1 (tVar 1))) tNil))) tNoPart (tPart (tOp (rAddU K) (tC (.int 2)) (tCallS (sp_law_take K ad) EN (tCons (tVar 0) (tCons (tOp rSubU (tVar 1) (tC (.int 1))) tNil)))))) (gName 8))
  (tSeq (tAsg (tLc (iSeq K (tVar 8)) (gName 5) tYes (tOp rSubU (tCallS (sp_law_take K ad) EN (tCons (tVar 0) (tCons (tC (.int 9)) tNil))) (tC (.int 4))) [5]) (gName 9))
  (tSeq (tAsg (tOp rSubU (tOp rSubU (tUn (rU fun i => .int (-i)) (tC (.int 1))) (tCallS (sp_law_take K ad) EN (tCons (tVar 0) (tCons (tC (.int 3)) tNil)))) (tCB (rSum K) (tCons (tSl (rSlU K) (tVar 9) (tPart (tC (.int 1))) tNoPart) tNil))) (gSub (tVar 9) (tC (.int 0)) rSetL))
  (tDrop (tBM K "list" rExtend (tVar 4) (tCons (tLc (iRng1 (tCons (tCB (rLenU K) (tCons (tVar 8) tNil)) tNil)) (gName 5) tYes (tTup (tCons (tOp (rIx K) (tVar 8) (tVar 5)) (tCons (tOp (rIx K) (tVar 8) (tOp rModU (tCB rIntU (tCons (tOp (rAddU K) (tVar 5) (tC (.int 1))) tNil)) (tCB (rLenU K) (tCons (tVar 8) tNil)))) (tCons (tOp (rIx K) (tVar 9) (tVar 5)) tNil)))) [5]) tNil)))))) tNext)
  (tRet (tSl (rSlU K) (tCallS (sp_law_mixed K ad) EN (tCons (tVar 0) (tCons (tVar 4) tNil))) tNoPart (tPart (tC (.int 60)))))))))))
def t_law_is_ring (K : Frag) (ad : Ad) : TS :=
  (tSeq (tIfS (tOr (tAnd (tNot (tTruth K (tCB (rIsiU K) (tCons (tVar 1) (tCons (tC (.ty "list")) tNil))))) (tNot (tTruth K (tCB (rIsiU K) (tCons (tVar 1) (tCons (tC (.ty "tuple")) tNil)))))) (tTest (tOp (rEqU K) (tCB (rLenU K) (tCons (tVar 1) tNil)) (tC (.int 0))))) (tRet (tC (.bl false))) tNext)
  (tSeq (tFor (iSeq K (tVar 1)) (gName 2) (tIfS (tOr (tNot (tTruth K (tCB (rIsiU K) (tCons (tVar 2) (tCons (tC (.ty "tuple")) tNil))))) (tOr (tTest (tOp (rNeU K) (tCB (rLenU K) (tCons (tVar 2) tNil)) (tC (.int 3)))) (tOr (tTest (tOp (rNeU K) (tLc (iSeq K (tVar 2)) (gName 3) (tNot (tTruth K (tCallS (sp_law_whole K ad) EN (tCons (tVar 3) tNil)))) (tVar 3) [3]) (tLst tNil))) (tTest (tOp (rNotInU K) (tVar 2) (tVar 0)))))) (tRet (tC (.bl false))) tNext))
  (tSeq (tIfS (tTest (tOp (rNeU K) (tLc (iRng1 (tCons (tCB (rLenU K) (tCons (tVar 1) tNil)) tNil)) (gName 4) (tTest (tOp (rNeU K) (tOp (rIx K) (tOp (rIx K) (tVar 1) (tVar 4)) (tC (.int 1))) (tOp (rIx K) (tOp (rIx K) (tVar 1) (tOp rModU (tCB rIntU (tCons (tOp (rAddU K) (tVar 4) (tC (.int 1))) tNil)) (tCB (rLenU K) (tCons (tVar 1) tNil)))) (tC (.int 0))))) (tVar 4) [4]) (tLst tNil))) (tRet (tC (.bl false))) tNext)
  (tRet (tOp rLtU (tCB (rSum K) (tCons (tLc (iSeq K (tVar 1)) (gName 2) tYes (tOp (rIx K) (tVar 2) (tC (.int 2))) [2]) tNil)) (tC (.int 0)))))))
def t_law_told (K : Frag) (ad : Ad) : TS :=
  (tSeq (tAsg (tC .non) (gName 4))
  (tSeq (fun D σ H => (fun W : WX => (tAsg (tIf (tTest (tOp (rEqU K) (tVar 3) (tC (.int 0)))) (tMeS ad.C_Plan "tight" (sp_Plan_tight K ad) (WE W) (tVar 0) (tCons (tVar 1) (tCons (tVar 2) tNil))) (tMeK ad.C_Plan "tight" (sp_Plan_tight K ad) kw_Plan_tight_other_one (WE W) (tVar 0) (tCons (tVar 2) (tCons (tVar 1) tNil)))) (gName 4))) (wCls K (fun _ _ _ _ => False) D [⟨.ref ad.C_InvalidPoint, some 5, fun a cls d => (tAsg (tTup (tCons (tC (.str "point")) (tCons (tXf a cls d ad.C_InvalidPoint "given" (tVar 5)) tNil))) (gName 4))⟩,
   ⟨.ref ad.C_NoPlan, some 5, fun a cls d => (tAsg (tTup (tCons (tC (.str "ring")) (tCons (tXf a cls d ad.C_NoPlan "ring" (tVar 5)) tNil))) (gName 4))⟩]) D σ H)
  (tRet (tVar 4))))
def t_law_reached (K : Frag) (ad : Ad) : TS :=
  (tSeq (tFor (iSeq K (tLst (tCons (tTup (tCons (tC (.int 0)) (tCons (tC (.bl true)) tNil))) (tCons (tTup (tCons (tC (.int 1)) (tCons (tC (.bl false)) tNil))) tNil)))) (gTup K 2 (gCons (gName 5) (gCons (gName 6) gNil))) (tSeq (tAsg (tMkS ad.C_Plan (sp_Plan_init K ad) EN (tCons (tVar 0) (tCons (tOp (rAddU K) (tVar 1) (tLst (tCons (tTup (tCons (tVar 3) (tCons (tVar 2) (tCons (tOp rSubU (tUn (rU fun i => .int (-i)) (tVar 4)) (tVar 5)) tNil)))) tNil))) tNil))) (gName 7))
  (tIfS (tTest (tOp (rNeU K) (tOp rIsU (tMeS ad.C_Plan "ring" (sp_Plan_ring K ad) EN (tVar 7) tNil) (tC .non)) (tVar 6))) (tRet (tC (.bl false))) tNext)))
  (tRet (tC (.bl true))))
def t_law_blames (K : Frag) (ad : Ad) : TS :=
  (tRet (tAndT K (tCB (rIsiU K) (tCons (tVar 0) (tCons (tC (.ty "tuple")) tNil))) (tAndT K (tOp (rEqU K) (tCB (rLenU K) (tCons (tVar 0) tNil)) (tC (.int 2))) (tAndT K (tOp (rEqU K) (tOp (rIx K) (tVar 0) (tC (.int 0))) (tC (.str "point"))) (tCallS (sp_law_blamed K ad) EN (tCons (tOp (rIx K) (tVar 0) (tC (.int 1))) (tCons (tVar 1) tNil)))))))
def t_law_bad_right (K : Frag) (ad : Ad) : TS :=
  (tSeq (tAsg (tLst (tCons (tVar 2) (tCons (tUn (rU fun i => .int (-i)) (tC (.int 1))) (tCons (tC (.bl true)) (tCons (tC .non) (tCons (tC (.str "0")) (tCons (tLst (tCons (tC (.int 0)) tNil)) (tCons (tTup (tCons (tC (.int 0)) tNil)) (tCons (tC (.int 99)) tNil))))))))) (gName 4))
  (tSeq (tPar 5 6 (tCons (tOp (rIx K) (tVar 4) (tCallS (sp_law_take K ad) EN (tCons (tVar 0) (tCons (tC (.int 8)) tNil)))) (tCons (tOp (rIx K) (tVar 4) (tCallS (sp_law_take K ad) EN (tCons (tVar 0) (tCons (tC (.int 8)) tNil)))) tNil)))
  (tSeq (tAsg (tCallS (sp_law_copy K ad) EN (tCons (tVar 5) tNil)) (gName 5))
  (tSeq (tIfS (tNot (tTruth K (tCallS (sp_law_blames K ad) EN (tCons (tCallS (sp_law_told K ad) EN (tCons (tVar 1) (tCons (tVar 5) (tCons (tCallS (sp_law_copy K ad) EN (tCons (tVar 6) tNil)) (tCons (tVar 3) tNil))))) (tCons (tVar 5) tNil))))) (tRet (tC (.bl false))) tNext)
  (tSeq (tAsg (tCallS (sp_law_copy K ad) EN (tCons (tVar 6) tNil)) (gName 6))
  (tRet (tCallS (sp_law_blames K ad) EN (tCons (tCallS (sp_law_told K ad) EN (tCons (tVar 1) (tCons (tCallS (sp_law_take K ad) EN (tCons (tVar 0) (tCons (tVar 2) tNil))) (tCons (tVar 6) (tCons (tOp rSubU (tC (.int 1)) (tVar 3)) tNil))))) (tCons (tVar 6) tNil)))))))))
def t_law_right (K : Frag) (ad : Ad) : TS :=
  (tSeq (tAsg (tCallS (sp_law_bounds K ad) EN (tCons (tVar 0) (tCons (tVar 1) (tCons (tAndT K (tVar 2) (tOp rGtU (tVar 1) (tC (.int 1)))) tNil)))) (gName 4))
  (tSeq (tAsg (tMkS ad.C_Plan (sp_Plan_init K ad) EN (tCons (tVar 1) (tCons (tVar 4) tNil))) (gName 5))
  (tSeq (tAsg (tCallS (sp_law_far K ad) EN (tCons (tVar 1) (tCons (tVar 4) tNil))) (gTup K 2 (gCons (gName 6) (gCons (gName 7) gNil))))
  (tSeq (tAsg (tOp (rAddU K) (tLc (iRng1 (tCons (tC (.int 12)) tNil)) (gName 12) tYes (tTup (tCons (tCallS (sp_law_take K ad) EN (tCons (tVar 0) (tCons (tVar 1) tNil))) (tCons (tCallS (sp_law_take K ad) EN (tCons (tVar 0) (tCons (tVar 1) tNil))) tNil))) [12]) (tLst (tCons (tTup (tCons (tC (.int 0)) (tCons (tC (.int 0)) tNil))) tNil))) (gName 8))
  (tSeq (tIfS (tTest (tOp rLtU (tVar 1) (tC (.int 5)))) (tSeq (tAsg (tLst tNil) (gName 8))
  (tFor (iRng1 (tCons (tVar 1) tNil)) (gName 9) (tDrop (tBM K "list" rExtend (tVar 8) (tCons (tLc (iRng1 (tCons (tVar 1) tNil)) (gName 10) tYes (tTup (tCons (tVar 9) (tCons (tVar 10) tNil))) [10]) tNil))))) tNext)
  (tSeq (tFor (iSeq K (tVar 8)) (gTup K 2 (gCons (gName 9) (gCons (gName 10) gNil))) (tSeq (tAsg (tCallS (sp_law_told K ad) EN (tCons (tVar 5) (tCons (tVar 9) (tCons (tVar 10) (tCons (tVar 3) tNil))))) (gName 11))
  (tIfS (tTruth K (tVar 7)) (tSeq (tIfS (tOr (tNot (tTruth K (tCB (rIsiU K) (tCons (tVar 11) (tCons (tC (.ty "tuple")) tNil))))) (tOr (tTest (tOp (rNeU K) (tCB (rLenU K) (tCons (tVar 11) tNil)) (tC (.int 2)))) (tOr (tTest (tOp (rNeU K) (tOp (rIx K) (tVar 11) (tC (.int 0))) (tC (.str "ring")))) (tNot (tTruth K (tCB (rIsiU K) (tCons (tOp (rIx K) (tVar 11) (tC (.int 1))) (tCons (tC (.ty "list")) tNil)))))))) (tRet (tC (.bl false))) tNext)
  (tIfS (tNot (tTruth K (tCallS (sp_law_is_ring K ad) EN (tCons (tVar 4) (tCons (tOp (rIx K) (tVar 11) (tC (.int 1))) tNil))))) (tRet (tC (.bl false))) tNext)) (tIfS (tOr (tNot (tTruth K (tCallS (sp_law_same K ad) EN (tCons (tVar 11) (tCons (tOp (rIx K) (tOp (rIx K) (tVar 6) (tVar 9)) (tVar 10)) tNil))))) (tNot (tTruth K (tCallS (sp_law_same K ad) EN (tCons (tCallS (sp_law_told K ad) EN (tCons (tVar 5) (tCons (tVar 9) (tCons (tVar 10) (tCons (tOp rSubU (tC (.int 1)) (tVar 3)) tNil))))) (tCons (tOp (rIx K) (tOp (rIx K) (tVar 6) (tVar 9)) (tVar 10)) tNil)))))) (tRet (tC (.bl false))) tNext))))
  (tSeq (tIfS (tAnd (tNot (tTruth K (tVar 7))) (tTest (tOp rGtU (tVar 1) (tC (.int 1))))) (tSeq (tAsg (tCallS (sp_law_take K ad) EN (tCons (tVar 0) (tCons (tVar 1) tNil))) (gName 9))
  (tSeq (tAsg (tOp rModU (tCB rIntU (tCons (tOp (rAddU K) (tOp (rAddU K) (tVar 9) (tC (.int 1))) (tCallS (sp_law_take K ad) EN (tCons (tVar 0) (tCons (tOp rSubU (tVar 1) (tC (.int 1))) tNil)))) tNil)) (tVar 1)) (gName 10))
  (tIfS (tAnd (tTest (tOp rNotU (tOp (rIx K) (tOp (rIx K) (tVar 6) (tVar 9)) (tVar 10)) (tC .non))) (tNot (tTruth K (tCallS (sp_law_reached K ad) EN (tCons (tVar 1) (tCons (tVar 4) (tCons (tVar 9) (tCons (tVar 10) (tCons (tOp (rIx K) (tOp (rIx K) (tVar 6) (tVar 9)) (tVar 10)) tNil))))))))) (tRet (tC (.bl false))) tNext))) tNext)
  (tRet (tCallS (sp_law_bad_right K ad) EN (tCons (tVar 0) (tCons (tVar 5) (tCons (tVar 1) (tCons (tVar 3) tNil)))))))))))))
def t_law (K : Frag) (ad : Ad) : TS :=
  (tSeq (tFor (iRng1 (tCons (tCB rMax2 (tCons (tC (.int 3)) (tCons (tCB rMin2 (tCons (tCB (rLenU K) (tCons (tVar 0) tNil)) (tCons (tC (.int 6)) tNil))) tNil))) tNil)) (gName 1) (tSeq (tAsg (tCallS (sp_law_box K ad) EN (tCons (tCallS (sp_law_cell K ad) EN (tCons (tVar 0) (tCons (tVar 1) tNil))) tNil)) (gName 2))
  (tSeq (tAsg (tCallS (sp_law_take K ad) EN (tCons (tVar 2) (tCons (tC (.int 2)) tNil))) (gName 3))
  (tSeq (tAsg (tOp (rEqU K) (tCallS (sp_law_take K ad) EN (tCons (tVar 2) (tCons (tC (.int 3)) tNil))) (tC (.int 0))) (gName 4))
  (tSeq (tAsg (tIf (tTest (tOp (rEqU K) (tCallS (sp_law_take K ad) EN (tCons (tVar 2) (tCons (tC (.int 8)) tNil))) (tC (.int 0)))) (tOp (rAddU K) (tC (.int 8)) (tCallS (sp_law_take K ad) EN (tCons (tVar 2) (tCons (tC (.int 23)) tNil)))) (tOp (rAddU K) (tC (.int 1)) (tCallS (sp_law_take K ad) EN (tCons (tVar 2) (tCons (tC (.int 7)) tNil))))) (gName 5))
  (tIfS (tOr (tNot (tTruth K (tCallS (sp_law_right K ad) EN (tCons (tVar 2) (tCons (tVar 5) (tCons (tVar 4) (tCons (tVar 3) tNil))))))) (tNot (tTruth K (tCallS (sp_law_right K ad) EN (tCons (tVar 2) (tCons (tOp (rAddU K) (tC (.int 2)) (tCallS (sp_law_take K ad) EN (tCons (tVar 2) (tCons (tC (.int 3)) tNil)))) (tCons (tNotT K (tVar 4)) (tCons (tOp rSubU (tC (.int 1)) (tVar 3)) tNil)))))))) (tRet (tC (.bl false))) tNext))))))
  (tRet (tC (.bl true))))
end A49
namespace A49
open PySem L2 SK
open PySem.W (Frag)
local macro_rules | `(tactic| walk_at "side") => `(tactic| first | omega | (constructor <;> omega) | (with_reducible assumption) | (with_reducible rfl))
local macro_rules | `(tactic| walk_at "hp") => `(tactic| first
  | assumption
  | (refine' Led.get ?L 0 ?h; (case L => assumption); (case h => rfl))
  | (refine' Led.get ?L 1 ?h; (case L => assumption); (case h => rfl))
  | (refine' Led.get ?L 2 ?h; (case L => assumption); (case h => rfl))
  | (refine' Led.get ?L 3 ?h; (case L => assumption); (case h => rfl))
  | (refine' Led.get ?L 4 ?h; (case L => assumption); (case h => rfl))
  | (refine' Led.get ?L 5 ?h; (case L => assumption); (case h => rfl))
  | (refine' Led.get ?L 6 ?h; (case L => assumption); (case h => rfl))
  | (refine' Led.get ?L 7 ?h; (case L => assumption); (case h => rfl))
  | (refine' Led.get ?L 8 ?h; (case L => assumption); (case h => rfl))
  | (refine' Led.get ?L 9 ?h; (case L => assumption); (case h => rfl))
  | (refine' Led.get ?L 10 ?h; (case L => assumption); (case h => rfl))
  | (refine' Led.get ?L 11 ?h; (case L => assumption); (case h => rfl))
  | (refine' Led.getR ?L 0 ?h; (case L => assumption); (case h => rfl))
  | (refine' Led.getR ?L 1 ?h; (case L => assumption); (case h => rfl))
  | (refine' Led.getR ?L 2 ?h; (case L => assumption); (case h => rfl)))
local macro_rules | `(tactic| walk_at "sq") => `(tactic| first
  | assumption
  | (refine' SqL.of ?h; (case h => walk_at "hp"))
  | (refine' SqT.of ?h; (case h => walk_at "hp"))
  | (refine' Led.sqT ?L ?h; (case L => assumption); (case h => assumption))
  | (refine' Led.sqL ?L ?n ?h; (case L => assumption); (case n => (first | assumption | simp)); (case h => assumption)))
local macro_rules | `(tactic| walk_at "ty") => `(tactic| first
  | assumption | exact .base (.int _) | exact .base (.bl _) | exact .base .non | exact .base (.str _)
  | (refine' tyL ?h; (case h => walk_at "sq")) | (refine' tyT ?h; (case h => walk_at "sq")))
local macro_rules | `(tactic| walk_at "wx") => `(tactic| first
  | with_reducible refine x_seq ?_
  | with_reducible refine x_asg ?_
  | ((with_reducible refine' x_var ?e ?_); (case e => rfl))
  | with_reducible refine x_c ?_
  | with_reducible refine x_op ?_
  | with_reducible refine x_name ?_
  | with_reducible refine x_tcons ?_
  | with_reducible refine x_tnil ?_
  | with_reducible refine x_cb ?_
  | with_reducible refine x_callS ?_
  | with_reducible refine x_ret ?_
  | with_reducible refine x_nx ?_
  | with_reducible refine x_if ?_
  | with_reducible refine x_test ?_
  | with_reducible refine TestV.mk ?_
  | with_reducible refine x_tru ?_
  | with_reducible refine x_truB ?_
  | with_reducible refine x_andT ?_
  | with_reducible refine AndT.bb ?_
  | with_reducible refine x_orT ?_
  | with_reducible refine OrT.bb ?_
  | with_reducible refine x_notT ?_
  | with_reducible refine NotT.yes ?_
  | with_reducible refine NotT.no ?_
  | with_reducible refine NotT.bb ?_
  | with_reducible refine IfT.yes ?_
  | with_reducible refine IfT.no ?_
  | with_reducible refine IfT.yesN ?_
  | with_reducible refine IfT.noN ?_
  | with_reducible refine IfS.yesN ?_
  | with_reducible refine IfS.noN ?_
  | with_reducible refine IfS.yes ?_
  | with_reducible refine IfS.no ?_
  | with_reducible refine x_and ?_
  | with_reducible refine x_or ?_
  | with_reducible refine x_not ?_
  | with_reducible refine NotQ.yes ?_
  | with_reducible refine NotQ.no ?_
  | with_reducible refine NotQ.any ?_
  | ((with_reducible refine' x_ixL ?h ?e ?_); (case h => walk_at "sq"); (case e => rfl))
  | ((with_reducible refine' x_ixT ?h ?e ?_); (case h => walk_at "sq"); (case e => rfl))
  | with_reducible refine x_ifE ?_
  | with_reducible refine x_chain ?_
  | with_reducible refine ChainV.mk ?_
  | with_reducible refine x_addI ?_
  | with_reducible refine x_I0 ?_
  | with_reducible refine x_ltI ?_
  | with_reducible refine x_eqI ?_
  | with_reducible refine x_neI ?_
  | with_reducible refine x_eqS ?_
  | with_reducible refine x_neS ?_
  | with_reducible refine x_eqB ?_
  | with_reducible refine x_neB ?_
  | with_reducible refine x_eqNN ?_
  | with_reducible refine x_eqNI ?_
  | with_reducible refine x_eqIN ?_
  | with_reducible refine x_isNN ?_
  | with_reducible refine x_isIN ?_
  | with_reducible refine x_isRN ?_
  | with_reducible refine x_isBN ?_
  | with_reducible refine x_isSN ?_
  | with_reducible refine x_isBB ?_
  | with_reducible refine x_notNN ?_
  | with_reducible refine x_notIN ?_
  | with_reducible refine x_notRN ?_
  | ((with_reducible refine' x_I ?c ?_); (case c => walk_at "side"))
  | ((with_reducible refine' x_mulI ?c ?_); (case c => (first | exact .inl (by constructor <;> omega) | exact .inr (by constructor <;> omega))))
  | with_reducible refine x_U ?_
  | with_reducible refine x_un ?_
  | with_reducible refine x_intI ?_
  | with_reducible refine x_intB ?_
  | with_reducible refine x_abs ?_
  | with_reducible refine x_max2 ?_
  | with_reducible refine x_min2 ?_
  | ((with_reducible refine' x_lenL ?h ?_); (case h => walk_at "sq"))
  | ((with_reducible refine' x_lenT ?h ?_); (case h => walk_at "sq"))
  | ((with_reducible refine' x_isi ?t ?e ?_); (case t => walk_at "ty"); (case e => (first | exact (show kitB _ _ = some true by decide +kernel) | exact (show kitB _ _ = some false by decide +kernel))))
  | ((with_reducible refine' x_isi2 ?t ?h ?e ?f ?_); (case h => walk_at "hp"); (case t => walk_at "ty"); (case e => (first | exact (show kitB _ _ = some true by decide +kernel) | exact (show kitB _ _ = some false by decide +kernel))); (case f => (first | exact (show kitB _ _ = some true by decide +kernel) | exact (show kitB _ _ = some false by decide +kernel))))
  | with_reducible refine x_lst ?_
  | with_reducible refine x_tup ?_
  | ((with_reducible refine' x_newL ?L ?l ?_); (case L => assumption); (case l => exact line_big (by first | decide | omega | (simp; done) | (simp; omega))); intro p H' L')
  | ((with_reducible refine' x_newT ?L ?l ?_); (case L => assumption); (case l => exact line_big (by first | decide | omega | (simp; done) | (simp; omega))); intro p H' L')
  | with_reducible refine x_drop ?_
  | with_reducible refine x_retN ?_
  | with_reducible refine x_brk ?_
  | with_reducible refine x_cnt ?_
  | with_reducible refine x_par ?_
  | with_reducible refine Par.mk ?_
  | with_reducible refine x_par3 ?_
  | with_reducible refine Par3.mk ?_
  | with_reducible refine x_gsub ?_
  | with_reducible refine x_gnil ?_
  | with_reducible refine x_gcons ?_
  | ((with_reducible refine' x_gtup ?h ?l ?_); (case h => walk_at "sq"); (case l => rfl))
  | with_reducible refine x_bm ?_
  | with_reducible refine x_bm0 ?_
  | ((with_reducible refine' x_tyL ?h ?_); (case h => walk_at "hp"))
  | ((with_reducible refine' x_setL 0 ?L ?h ?m ?_); (case L => assumption); (case h => rfl); (case m => rfl); intro H' L')
  | ((with_reducible refine' x_setL 1 ?L ?h ?m ?_); (case L => assumption); (case h => rfl); (case m => rfl); intro H' L')
  | ((with_reducible refine' x_setL 2 ?L ?h ?m ?_); (case L => assumption); (case h => rfl); (case m => rfl); intro H' L')
  | ((with_reducible refine' x_setL 3 ?L ?h ?m ?_); (case L => assumption); (case h => rfl); (case m => rfl); intro H' L')
  | ((with_reducible refine' x_setL 4 ?L ?h ?m ?_); (case L => assumption); (case h => rfl); (case m => rfl); intro H' L')
  | ((with_reducible refine' x_setL 5 ?L ?h ?m ?_); (case L => assumption); (case h => rfl); (case m => rfl); intro H' L')
  | ((with_reducible refine' x_app 0 ?L ?h ?l ?_); (case L => assumption); (case h => rfl); (case l => exact line_lt (by first | decide | omega | (simp; done) | (simp; omega))); intro H' L')
  | ((with_reducible refine' x_app 1 ?L ?h ?l ?_); (case L => assumption); (case h => rfl); (case l => exact line_lt (by first | decide | omega | (simp; done) | (simp; omega))); intro H' L')
  | ((with_reducible refine' x_app 2 ?L ?h ?l ?_); (case L => assumption); (case h => rfl); (case l => exact line_lt (by first | decide | omega | (simp; done) | (simp; omega))); intro H' L')
  | ((with_reducible refine' x_app 3 ?L ?h ?l ?_); (case L => assumption); (case h => rfl); (case l => exact line_lt (by first | decide | omega | (simp; done) | (simp; omega))); intro H' L')
  | ((with_reducible refine' x_app 4 ?L ?h ?l ?_); (case L => assumption); (case h => rfl); (case l => exact line_lt (by first | decide | omega | (simp; done) | (simp; omega))); intro H' L')
  | ((with_reducible refine' x_app 5 ?L ?h ?l ?_); (case L => assumption); (case h => rfl); (case l => exact line_lt (by first | decide | omega | (simp; done) | (simp; omega))); intro H' L')
  | ((with_reducible refine' x_app 6 ?L ?h ?l ?_); (case L => assumption); (case h => rfl); (case l => exact line_lt (by first | decide | omega | (simp; done) | (simp; omega))); intro H' L')
  | ((with_reducible refine' x_app 7 ?L ?h ?l ?_); (case L => assumption); (case h => rfl); (case l => exact line_lt (by first | decide | omega | (simp; done) | (simp; omega))); intro H' L')
  | with_reducible refine x_sl ?_
  | with_reducible refine x_noPart ?_
  | with_reducible refine x_part ?_
  | with_reducible refine PartV.mk ?_
  | ((with_reducible refine' x_slL ?L ?h ?_); (case L => assumption); (case h => walk_at "sq"); intro p H' L')
  | ((with_reducible refine' x_listL ?L ?h ?_); (case L => assumption); (case h => walk_at "sq"); intro p H' L')
  | ((with_reducible refine' x_listT ?L ?h ?_); (case L => assumption); (case h => walk_at "sq"); intro p H' L')
  | with_reducible refine x_rev ?_
  | ((with_reducible refine' x_revL ?L ?h ?_); (case L => assumption); (case h => walk_at "sq"); intro p H' L')
  | with_reducible refine x_fld ?_
  | with_reducible refine x_sfld ?_
  | with_reducible refine x_me ?_
  | with_reducible refine x_meK ?_
  | with_reducible refine x_mk ?_
  | with_reducible refine x_for ?_
  | with_reducible refine x_body ?_
  | with_reducible refine x_rng1 ?_
  | ((with_reducible refine' Rng1V.mk ?a ?b ?_); (case a => walk_at "side"); (case b => walk_at "side"))
  | with_reducible refine x_rng2 ?_
  | ((with_reducible refine' Rng2V.mk ?b ?_); (case b => exact ⟨by omega, by omega, by omega, by omega⟩))
  | with_reducible refine x_seqI ?_
  | ((with_reducible refine' SeqIt.ll ?h ?_); (case h => walk_at "sq"))
  | ((with_reducible refine' SeqIt.tt ?h ?_); (case h => walk_at "sq"))
  | with_reducible refine x_lc ?_
  | with_reducible refine x_yes ?_
  | ((with_reducible refine' LcB.mk ?e ?_); (case e => rfl))
  | with_reducible refine LcI.yes ?_
  | with_reducible refine LcI.no ?_
  | with_reducible refine WhO.yes ?_
  | with_reducible refine WhO.no ?_
  | with_reducible refine x_lstRg ?_
  | with_reducible refine x_rg1 ?_
  | with_reducible refine Rg1V.mk ?_
  | ((with_reducible refine' x_lenS ?l ?_); (case l => first | assumption | exact line_big (by omega)))
  | ((with_reducible refine' x_slS ?l ?_); (case l => first | assumption | exact line_big (by omega)))
  | with_reducible refine x_raise ?_
  | with_reducible refine x_xf ?_)
local macro_rules | `(tactic| walk_at "wr") => `(tactic| repeat walk_at "wx")
local macro_rules | `(tactic| walk_at "wd") => `(tactic| first
  | refine IfT.no ?_
  | refine IfT.yes ?_
  | refine IfS.no ?_
  | refine IfS.yes ?_)
theorem pure_is_whole {K : Frag} {mg : Str → Option Value} {ad : Ad} (T : Txt K mg ad) (vs : List V) (H : Hp) (Q : VK) (E : XK) (h : sp_is_whole K ad vs H Q E) : t_is_whole K ad { nx := fun _ H' => Q .non H', rt := Q } (L2.start ["value"] vs) H := by
  obtain ⟨v, n, rfl, ty, hn, k⟩ := h
  unfold t_is_whole
  simp only [tys, List.mem_cons, List.not_mem_nil, or_false] at hn
  rcases hn with rfl | rfl | rfl | rfl | rfl | rfl | rfl <;> (walk_at "wr"; exact k)
theorem len_is_whole {K : Frag} {ad : Ad} : ∀ vs H Q E, sp_is_whole K ad vs H Q E → vs.length = 1 := fun vs H Q E h => by
  obtain ⟨_, _, rfl, _⟩ := h; rfl
theorem len_law_whole {K : Frag} {ad : Ad} : ∀ vs H Q E, sp_law_whole K ad vs H Q E → vs.length = 1 := fun vs H Q E h => by
  obtain ⟨_, _, rfl, _⟩ := h; rfl
theorem pure_law_whole {K : Frag} {mg : Str → Option Value} {ad : Ad} (T : Txt K mg ad) (vs : List V) (H : Hp) (Q : VK) (E : XK) (h : sp_law_whole K ad vs H Q E) : t_law_whole K ad { nx := fun _ H' => Q .non H', rt := Q } (L2.start ["value"] vs) H := by
  obtain ⟨v, n, rfl, ty, hn, k⟩ := h
  unfold t_law_whole
  simp only [tys, List.mem_cons, List.not_mem_nil, or_false] at hn
  rcases hn with rfl | rfl | rfl | rfl | rfl | rfl | rfl <;> (walk_at "wr"; exact k)
theorem len_is_from_to {K : Frag} {ad : Ad} : ∀ vs H Q E, sp_is_from_to K ad vs H Q E → vs.length = 3 := fun vs H Q E h => by
  obtain ⟨_, _, _, rfl, _⟩ := h; rfl
theorem pure_is_from_to {K : Frag} {mg : Str → Option Value} {ad : Ad} (T : Txt K mg ad) (vs : List V) (H : Hp) (Q : VK) (E : XK) (h : sp_is_from_to K ad vs H Q E) : t_is_from_to K ad { nx := fun _ H' => Q .non H', rt := Q } (L2.start ["value", "low", "high"] vs) H := by
  obtain ⟨i, lo, hi, rfl, k⟩ := h
  unfold t_is_from_to
  walk_at "wr"
  refine ⟨_, "int", rfl, .base (.int _), by decide, ?_⟩
  rw [decide_eq_true rfl]
  walk_at "wr"
  refine IfT.by_ (fun c => ?_) (fun c => ?_)
  · walk_at "wr"
    have e := of_decide_eq_true c
    simpa [e] using k
  · have e := of_decide_eq_false c
    simpa [e] using k
theorem len_is_index {K : Frag} {ad : Ad} : ∀ vs H Q E, sp_is_index K ad vs H Q E → vs.length = 2 := fun vs H Q E h => by
  obtain ⟨_, _, rfl, _⟩ := h; rfl
theorem pure_is_index {K : Frag} {mg : Str → Option Value} {ad : Ad} (T : Txt K mg ad) (vs : List V) (H : Hp) (Q : VK) (E : XK) (h : sp_is_index K ad vs H Q E) : t_is_index K ad { nx := fun _ H' => Q .non H', rt := Q } (L2.start ["value", "many"] vs) H := by
  obtain ⟨v, many, rfl, ⟨i, rfl, k⟩ | ⟨n, ty, hn, ne, k⟩⟩ := h
  · unfold t_is_index
    walk_at "wr"
    refine ⟨_, "int", rfl, .base (.int _), by decide, ?_⟩
    rw [decide_eq_true rfl]
    walk_at "wr"
    refine IfT.by_ (fun c => ?_) (fun c => ?_)
    · walk_at "wr"
      have e := of_decide_eq_true c
      simpa [e] using k
    · have e := of_decide_eq_false c
      simpa [e] using k
  · unfold t_is_index
    walk_at "wr"
    refine ⟨_, n, rfl, ty, hn, ?_⟩
    rw [decide_eq_false ne]
    walk_at "wr"
    exact k
theorem len_is_listed {K : Frag} {ad : Ad} : ∀ vs H Q E, sp_is_listed K ad vs H Q E → vs.length = 1 := fun vs H Q E h => by
  obtain ⟨_, _, rfl, _⟩ := h; rfl
theorem ty_keep {K : Frag} {H H' : Hp} {v : V} {n : String} (m : Mod [] H H') (h : TyX K H v (.type n)) : TyX K H' v (.type n) := by
  cases h with
  | base h =>
    cases h with
    | non => exact .base .non
    | bl b => exact .base (.bl b)
    | int i => exact .base (.int i)
    | str s => exact .base (.str s)
    | flt x => exact .base (.flt x)
    | lst e => exact .base (.lst (m.keep _ _ (by simp) e))
    | frz e => exact .base (.frz (m.keep _ _ (by simp) e))
    | tup e => exact .base (.tup (m.keep _ _ (by simp) e))
    | dK e => exact .base (.dK (m.keep _ _ (by simp) e))
    | dT e => exact .base (.dT (m.keep _ _ (by simp) e))
  | byt b => exact .byt b
  | set e => exact .set (m.keep _ _ (by simp) e)
  | kList e c => exact .kList e c
  | kTuple e c => exact .kTuple e c
  | kDict e c => exact .kDict e c
  | fTuple e => exact .fTuple (m.keep _ _ (by simp) e)
  | fDict e => exact .fDict (m.keep _ _ (by simp) e)
theorem pure_is_listed {K : Frag} {mg : Str → Option Value} {ad : Ad} (T : Txt K mg ad) (vs : List V) (H : Hp) (Q : VK) (E : XK) (h : sp_is_listed K ad vs H Q E) : t_is_listed K ad { nx := fun _ H' => Q .non H', rt := Q } (L2.start ["value"] vs) H := by
  obtain ⟨v, n, rfl, ty, hn, k⟩ := h
  have L := Led.start0 H
  unfold t_is_listed
  walk_at "wr"
  rename_i p H' L'
  have ty' := ty_keep L'.md ty
  have k' := k H' L'.md
  simp only [tys, List.mem_cons, List.not_mem_nil, or_false] at hn
  rcases hn with rfl | rfl | rfl | rfl | rfl | rfl | rfl <;> (walk_at "wr"; exact k')
theorem len_is_tuple_of {K : Frag} {ad : Ad} : ∀ vs H Q E, sp_is_tuple_of K ad vs H Q E → vs.length = 2 := fun vs H Q E h => by
  obtain ⟨_, _, _, rfl, _⟩ := h; rfl
theorem pure_is_tuple_of {K : Frag} {mg : Str → Option Value} {ad : Ad} (T : Txt K mg ad) (vs : List V) (H : Hp) (Q : VK) (E : XK) (h : sp_is_tuple_of K ad vs H Q E) : t_is_tuple_of K ad { nx := fun _ H' => Q .non H', rt := Q } (L2.start ["value", "many"] vs) H := by
  obtain ⟨a, xs, m, rfl, hs, k⟩ := h
  unfold t_is_tuple_of
  walk_at "wr"
  exact k
theorem len_is_bound {K : Frag} {ad : Ad} : ∀ vs H Q E, sp_is_bound K ad vs H Q E → vs.length = 2 := fun vs H Q E h => by
  obtain ⟨_, _, _, rfl, _⟩ := h; rfl
theorem pure_is_bound {K : Frag} {mg : Str → Option Value} {ad : Ad} (T : Txt K mg ad) (vs : List V) (H : Hp) (Q : VK) (E : XK) (h : sp_is_bound K ad vs H Q E) : t_is_bound K ad { nx := fun _ H' => Q .non H', rt := Q } (L2.start ["many", "value"] vs) H := by
  obtain ⟨n, v, ⟨i, j, m⟩, rfl, ⟨a, rfl, hs⟩, ok, k⟩ := h
  unfold t_is_bound
  walk_at "wr"
  refine ⟨a, _, 3, rfl, hs, ?_⟩
  rw [decide_eq_true (by rfl)]
  walk_at "wr"
  refine ⟨_, _, rfl, .inl ⟨_, rfl, ?_⟩⟩
  rw [decide_eq_true ⟨ok.1, ok.2.1⟩]
  walk_at "wr"
  refine ⟨_, _, rfl, .inl ⟨_, rfl, ?_⟩⟩
  rw [decide_eq_true ⟨ok.2.2.1, ok.2.2.2.1⟩]
  walk_at "wr"
  rw [decide_eq_false ok.2.2.2.2]
  walk_at "wr"
  refine ⟨_, "int", rfl, .base (.int _), by decide, ?_⟩
  rw [decide_eq_true rfl]
  exact k
theorem len_law_cell {K : Frag} {ad : Ad} : ∀ vs H Q E, sp_law_cell K ad vs H Q E → vs.length = 2 := fun vs H Q E h => by
  obtain ⟨_, _, _, rfl, _⟩ := h; rfl
theorem pure_law_cell {K : Frag} {mg : Str → Option Value} {ad : Ad} (T : Txt K mg ad) (vs : List V) (H : Hp) (Q : VK) (E : XK) (h : sp_law_cell K ad vs H Q E) : t_law_cell K ad { nx := fun _ H' => Q .non H', rt := Q } (L2.start ["script", "k"] vs) H := by
  obtain ⟨a, ns, k, rfl, hs, hl, h0, h1, q⟩ := h
  have L := Led.start0 H
  unfold t_law_cell
  walk_at "wr"
  refine IfT.by_ (fun c => ?_) (fun c => ?_)
  · have e := of_decide_eq_true c
    rw [List.length_map] at e
    obtain ⟨x, hx⟩ : ∃ x, ns[k.toNat]? = some x := ⟨ns[k.toNat]'(by omega), List.getElem?_eq_getElem (by omega)⟩
    have hat : atI (ns.map V.int) k = some (.int x) := by
      have z := atI_nat (xs := ns.map V.int) (j := k.toNat) (v := .int x) (by rw [List.getElem?_map, hx]; rfl)
      rwa [Int.toNat_of_nonneg h0] at z
    walk_at "wr"
    refine x_ixL hs hat (q _ _ (Mod.refl _ _))
  · walk_at "wr"
    rename_i p H' L'
    have hc : cutV (ns.map V.int) none (some 1) = (ns.take 1).map V.int := by
      unfold cutV
      rw [HT.sIx_none, show (1 : Int) = ((1 : Nat) : Int) from rfl, HT.sIx_nat]
      cases ns <;> simp
    refine x_sum (ns := ns.take 1) (by rw [← hc]; walk_at "sq") ?_
    walk_at "wr"
    exact q _ _ L'.md
theorem len_law_box {K : Frag} {ad : Ad} : ∀ vs H Q E, sp_law_box K ad vs H Q E → vs.length = 1 := fun vs H Q E h => by
  obtain ⟨_, rfl, _⟩ := h; rfl
theorem pure_law_box {K : Frag} {mg : Str → Option Value} {ad : Ad} (T : Txt K mg ad) (vs : List V) (H : Hp) (Q : VK) (E : XK) (h : sp_law_box K ad vs H Q E) : t_law_box K ad { nx := fun _ H' => Q .non H', rt := Q } (L2.start ["great"] vs) H := by
  obtain ⟨g, rfl, q⟩ := h
  have L := Led.start0 H
  unfold t_law_box
  walk_at "wr"
  rename_i p H' L'
  refine q p _ H' (L'.fresh0 0 rfl) L'.md (L'.get 0 rfl) ⟨_, _, _, _, rfl, ?_, ?_, ?_, ?_, ?_⟩
  · split <;> omega
  · exact Int.emod_nonneg _ (by decide)
  · exact Int.lt_of_lt_of_le (Int.emod_lt_of_pos _ (by decide)) (by decide)
  · omega
  · omega
theorem len_law_take {K : Frag} {ad : Ad} : ∀ vs H Q E, sp_law_take K ad vs H Q E → vs.length = 2 := fun vs H Q E h => by
  obtain ⟨_, _, _, _, rfl, _⟩ := h; rfl
theorem pure_law_take {K : Frag} {mg : Str → Option Value} {ad : Ad} (T : Txt K mg ad) (vs : List V) (H : Hp) (Q : VK) (E : XK) (h : sp_law_take K ad vs H Q E) : t_law_take K ad { nx := fun _ H' => Q .non H', rt := Q } (L2.start ["box", "many", "digit", "mixed"] vs) H := by
  obtain ⟨b, o, n, many, rfl, hb, ⟨g, f, m, c, rfl, g0, m0, m1, c0, c1⟩, hn, h0, h1, q⟩ := h
  have L := Led.start1 hb
  unfold t_law_take
  walk_at "wr"
  have m0' : 0 ≤ m + 15485863 * (c + 1) + 179424673 := by omega
  have mb : m + 15485863 * (c + 1) + 179424673 < 2 ^ 63 := by omega
  have tail : ∀ H1, Led [b] H H1 [] [(b, .lst [.int g, .bl f, .int m, .int (c + 1)])] (fun _ => True) → ∀ r, 0 ≤ r → r < many → Q (.int r) H1 := fun H1 L1 r r0 r1 =>
    q r _ H1 L1.md (L1.get 0 rfl) ⟨_, _, _, _, rfl, g0, m0, m1, by omega, by push_cast; omega⟩ r0 r1
  refine IfT.by_ (fun cf => ?_) (fun cf => ?_)
  · walk_at "wr"
    refine IfS.by_ (fun cg => ?_) (fun cg => ?_)
    · walk_at "wr"
      rename_i H' L'
      have hg : 0 < g := of_decide_eq_true cg
      exact q _ _ _ L'.md (L'.get 0 rfl) ⟨_, _, _, _, rfl, Int.ediv_nonneg g0 (by omega), m0, m1, c0, by push_cast; omega⟩ (Int.emod_nonneg _ (by omega)) (Int.emod_lt_of_pos _ h0)
    · walk_at "wr"
      rename_i H' L'
      exact tail _ L' _ (Int.emod_nonneg _ (by omega)) (Int.emod_lt_of_pos _ h0)
  · walk_at "wr"
    rename_i H' L'
    exact tail _ L' _ (Int.emod_nonneg _ (by omega)) (Int.emod_lt_of_pos _ h0)
theorem len_are_bounds {K : Frag} {ad : Ad} : ∀ vs H Q E, sp_are_bounds K ad vs H Q E → vs.length = 2 := fun vs H Q E h => by
  obtain ⟨_, _, _, _, rfl, _⟩ := h; rfl
theorem pure_are_bounds {K : Frag} {mg : Str → Option Value} {ad : Ad} (T : Txt K mg ad) (vs : List V) (H : Hp) (Q : VK) (E : XK) (h : sp_are_bounds K ad vs H Q E) : t_are_bounds K ad { nx := fun _ H' => Q .non H', rt := Q } (L2.start ["many", "value", "bound"] vs) H := by
  obtain ⟨n, a, us, bs, rfl, hs, ht, ok, hl, k⟩ := h
  have L := Led.start0 H
  unfold t_are_bounds
  walk_at "wr"
  refine ⟨_, "list", rfl, tyL hs, by decide, fun H1 m1 => ?_⟩
  rw [show (decide (("list" : String) = "list") || decide (("list" : String) = "tuple")) = true from rfl]
  have L1 := L.stay m1
  clear L
  walk_at "wr"
  refine LcV.lst L1 (fun D i H' => ∃ acc, acc = (us.take i).map (fun _ => V.bl true) ∧ Led [] H H' [] [(D, .lst acc)] (fun _ => True)) (fun D H' L' => ⟨[], by simp, L'⟩) (fun D i H' hi ⟨acc, e, L'⟩ => L'.sqL (by simp) hs) (fun D i x H' hx ⟨acc, e, L'⟩ => ?_) (fun D H' ⟨acc, e, L'⟩ => ?_)
  · obtain ⟨b, hb, tr⟩ := pairAt ht hx
    walk_at "wr"
    refine ⟨_, _, b, rfl, trp_grow L'.md.grow tr, ok b (List.mem_of_getElem? hb), ?_⟩
    refine AccV.mk 0 L' rfl (line_lt (by rw [e, List.length_map, List.length_take]; omega)) fun H2 L2 => ⟨_, ?_, L2⟩
    rw [e, take_more hx, List.map_append]
    rfl
  · walk_at "wr"
    refine x_all (bs := us.map fun _ => true) (SqL.of (L'.get 0 (by rw [e, List.take_length, List.map_map]; rfl))) ?_
    have z : ((us.map fun _ => true).all id) = true := by simp
    rw [z]
    exact k _ L'.md
theorem len_law_mixed {K : Frag} {ad : Ad} : ∀ vs H Q E, sp_law_mixed K ad vs H Q E → vs.length = 2 := fun vs H Q E h => by
  obtain ⟨_, _, _, _, _, rfl, _⟩ := h; rfl
theorem pure_law_mixed {K : Frag} {mg : Str → Option Value} {ad : Ad} (T : Txt K mg ad) (vs : List V) (H : Hp) (Q : VK) (E : XK) (h : sp_law_mixed K ad vs H Q E) : t_law_mixed K ad { nx := fun _ H' => Q .non H', rt := Q } (L2.start ["box", "items", "left", "found"] vs) H := by
  obtain ⟨b, o, n, a, xs, rfl, hb, bo, hn, hs, hab, hit, hl, k⟩ := h
  have L := (Led.start1 hb).phi stab_items hit
  have hs0 : ∀ {H1 : Hp}, Led [b] H H1 [] [(b, o)] (fun H => ∀ x ∈ xs, Item K H x) → SqL K H1 a xs := fun L1 => L1.sqL (by simpa using hab) hs
  have hsH := hs0 L
  unfold t_law_mixed
  walk_at "wr"
  rename_i p1 H1 La p2 H2 Lb
  refine x_while (fun m σ H' => ∃ ys zs o', σ = [some (.ref b), some (.ref a), some (.ref p1), some (.ref p2)] ∧ m = ys.length ∧ Led [b] H H' [] [(p2, .lst zs), (p1, .lst ys), (b, o')] (fun H => ∀ x ∈ xs, Item K H x) ∧ (zs ++ ys).Perm xs ∧ BoxOk (n + zs.length) o') xs.length
    ⟨xs, [], o, rfl, rfl, Lb, by simp, bo⟩ ?_
  rintro m σ H' ⟨ys, zs, o', rfl, rfl, Lc, pm, bo'⟩
  have it : ∀ x ∈ ys, Item K H' x := fun x hx => Lc.ph x (pm.subset (List.mem_append_right _ hx))
  have hlen : zs.length + ys.length = xs.length := by rw [← List.length_append]; exact pm.length_eq
  walk_at "wr"
  rename_i p3 H3 Ld
  obtain ⟨ds, dp, fl⟩ := items_dp (H := H3) (xs := ys) (fun x hx => Ld.ph x (pm.subset (List.mem_append_right _ hx)))
  refine x_neNil (SqL.of (Ld.get 2 rfl)) (SqL.of (Ld.get 0 rfl)) dp fl (by omega) ?_
  refine TestV.mk ?_
  cases ys with
  | nil =>
    refine WhO.no ?_
    walk_at "wr"
    refine k _ _ _ _ (Ld.fresh1 1 3 rfl rfl (by decide)) Ld.md (Ld.get 1 rfl) (Ld.get 3 rfl) (bo'.more (by simp at hlen; omega)) (by simpa using pm)
  | cons y ys =>
    refine WhO.yes ?_
    walk_at "wr"
    refine ⟨_, o', n + zs.length, _, rfl, Ld.get 3 rfl, bo', by simp at hlen; omega, by simp, by simp at hlen ⊢; omega, fun r o2 H4 m4 hb4 bo4 r0 r1 => ?_⟩
    have Le := Ld.change (i := 3) rfl m4 hb4
    obtain ⟨v, hv⟩ : ∃ v, (y :: ys)[r.toNat]? = some v := ⟨(y :: ys)[r.toNat]'(by omega), List.getElem?_eq_getElem _⟩
    walk_at "wr"
    refine x_popAt (m := r.toNat) (v := v) 2 Le rfl (by omega) (by simp at hlen r1; omega) (seq_nat r0 r1) hv fun H5 Lf => ?_
    walk_at "wr"
    rename_i H6 Lg
    have pe := perm_erase hv
    refine ⟨ys.length, by simp, (y :: ys).eraseIdx r.toNat, zs ++ [v], o2, rfl, ?_, Lg.sub (List.sublist_cons_self _ _), ?_, bo4.more (by simp; omega)⟩
    · have z := pe.length_eq
      simp at z ⊢; omega
    · rw [List.append_assoc]
      exact ((pe.append_left zs)).trans pm
theorem len_law_copy {K : Frag} {ad : Ad} : ∀ vs H Q E, sp_law_copy K ad vs H Q E → vs.length = 1 := fun vs H Q E h => by
  obtain ⟨_, rfl, _⟩ := h; rfl
theorem pure_law_copy {K : Frag} {mg : Str → Option Value} {ad : Ad} (T : Txt K mg ad) (vs : List V) (H : Hp) (Q : VK) (E : XK) (h : sp_law_copy K ad vs H Q E) : t_law_copy K ad { nx := fun _ H' => Q .non H', rt := Q } (L2.start ["value"] vs) H := by
  obtain ⟨x, rfl, od, k1, k2, k3⟩ := h
  have L := Led.start0 H
  unfold t_law_copy
  cases od with
  | int i => walk_at "wr"; exact k1 rfl
  | bl i => walk_at "wr"; exact k1 rfl
  | non => walk_at "wr"; exact k1 rfl
  | str c l => walk_at "wr"; exact k1 rfl
  | lst h l =>
    have hs := SqL.of (K := K) h
    walk_at "wr"
    rename_i p H' L'
    exact k2 _ _ rfl h _ _ (L'.fresh0 0 rfl) L'.md (L'.get 0 rfl)
  | tup h l =>
    have hs := SqT.of (K := K) h
    walk_at "wr"
    exact k3 _ _ rfl h
theorem len_law_blamed {K : Frag} {ad : Ad} : ∀ vs H Q E, sp_law_blamed K ad vs H Q E → vs.length = 2 := fun vs H Q E h => by
  obtain ⟨_, rfl, _⟩ := h; rfl
theorem Odd.flat {K : Frag} {n : Int} {H : Hp} {x : V} (h : Odd K n x H) : ∃ d, Dp K H x d ∧ Flat 2 d := by
  cases h with
  | int i => exact ⟨_, .int i, .int⟩
  | bl i => exact ⟨_, .bl i, .bl⟩
  | non => exact ⟨_, .non, .non⟩
  | str c l => exact ⟨_, .str _, .str c (by omega)⟩
  | lst h l => exact ⟨_, .lst (SqL.of h) (dpInts _), .lst (flatInts _) (by simp; omega)⟩
  | tup h l => exact ⟨_, .tup (SqT.of h) (dpInts _), .tup (flatInts _) (by simp; omega)⟩
theorem Odd.keep {K : Frag} {n : Int} {H H' : Hp} {x : V} (m : Mod [] H H') (h : Odd K n x H) : Odd K n x H' := by
  cases h with
  | int i => exact .int i
  | bl i => exact .bl i
  | non => exact .non
  | str c l => exact .str c l
  | lst h l => exact .lst (m.keep _ _ (by simp) h) l
  | tup h l => exact .tup (m.grow.1 _ _ h) l
theorem pure_law_blamed {K : Frag} {mg : Str → Option Value} {ad : Ad} (T : Txt K mg ad) (vs : List V) (H : Hp) (Q : VK) (E : XK) (h : sp_law_blamed K ad vs H Q E) : t_law_blamed K ad { nx := fun _ H' => Q .non H', rt := Q } (L2.start ["given", "value"] vs) H := by
  obtain ⟨x, rfl, od, k⟩ := h
  unfold t_law_blamed
  walk_at "wr"
  obtain ⟨d, dx, fd⟩ := od.flat
  refine ⟨x, x, d, rfl, dx, dx, fd.mono (by decide), fun H1 m1 => ?_⟩
  replace od := od.keep m1
  have fin : ∀ H', (∃ d, Dp K H' x d ∧ Flat 2 d) → Mod (own1 x) H H' → sp_law_same K ad [x, x] H' Q E0 := fun H' od' m' => by
    obtain ⟨d', dx', fd'⟩ := od'
    exact ⟨x, x, d', rfl, dx', dx', fd'.mono (by decide), fun H2 m2 => k H2 (m'.trans m2.nil)⟩
  cases od with
  | int i => walk_at "wr"; exact fin _ (Odd.flat (n := 0) (.int i)) m1.nil
  | bl i => walk_at "wr"; exact fin _ (Odd.flat (n := 0) (.bl i)) m1.nil
  | non => walk_at "wr"; exact fin _ (Odd.flat (n := 0) .non) m1.nil
  | str c l => walk_at "wr"; exact fin _ (Odd.flat (n := 0) (.str c l)) m1.nil
  | lst h l =>
    have hs := SqL.of (K := K) h
    have L := Led.start1 h
    walk_at "wr"
    rename_i H' L'
    exact fin _ ⟨_, .lst (SqL.of (L'.get 0 rfl)) (by rw [show ([V.int 7] : List V) = [7].map V.int from rfl, ← List.map_append]; exact dpInts _), .lst (flatInts _) (by simp; omega)⟩ (m1.nil.trans L'.md)
  | tup h l => walk_at "wr"; exact fin _ (Odd.flat (n := 0) (.tup h l)) m1.nil
/-- plain data at equal values -/
theorem pure_law_same {K : Frag} {mg : Str → Option Value} {ad : Ad} (T : Txt K mg ad) (n : Nat) (vs : List V) (H : Hp) (Q : VK) (E : XK) (h : sameAt K (n + 1) vs H Q E) : t_law_same K ad (sameAt K n) { nx := fun _ H' => Q .non H', rt := Q } (L2.start ["told", "due", "k"] vs) H := by
  obtain ⟨x, y, d, rfl, hx, hy, fl, k⟩ := h
  have L := Led.start0 H
  replace fl : Flat n d := fl
  -- the walk over the items: nothing is found
  unfold t_law_same
  cases fl with
  | non =>
    cases hx; cases hy
    walk_at "wr"
    exact k _ (Mod.refl _ _)
  | bl =>
    cases hx; cases hy
    walk_at "wr"
    simpa using k H (Mod.refl _ _)
  | int =>
    cases hx; cases hy
    walk_at "wr"
    simpa using k H (Mod.refl _ _)
  | @str _ s c l =>
    cases hx; cases hy
    walk_at "wr"
    rw [decide_eq_true rfl]
    walk_at "wr"
    refine LcV.rng L (fun D i H' => Led [] H H' [] [(D, .lst [])] (fun _ => True)) (fun D H' L' => L') (fun D i H' hi L' => ?_) (fun D H' L' => ?_)
    · obtain ⟨cc, hc⟩ := str_at (s := s) (k := i) (by omega)
      rw [Int.zero_add]
      walk_at "wr"
      rw [cut_one hc]
      walk_at "wr"
      refine x_ixS (line_big (by omega)) (atI_nat hc) ?_
      walk_at "wr"
      rw [decide_eq_true rfl]
      walk_at "wr"
      exact L'
    · walk_at "wr"
      rename_i p1 H1 La
      refine x_eqNil (SqL.of (La.get 1 rfl)) (SqL.of (La.get 0 rfl)) .nil (by simp) (by simp) ?_
      walk_at "wr"
      exact k _ La.md
  | @lst _ ds hd dl =>
    cases hx with
    | lst h1 d1 =>
      cases hy with
      | lst h2 d2 =>
        walk_at "wr"
        walk_at "wd"
        walk_at "wr"
        walk_at "wd"
        walk_at "wr"
        have e1 := dpLen d1
        have e2 := dpLen d2
        rw [decide_eq_true (by omega)]
        walk_at "wr"
        refine LcV.rng L (fun D i H' => Led [] H H' [] [(D, .lst [])] (fun _ => True)) (fun D H' L' => L') (fun D i H' hi L' => ?_) (fun D H' L' => ?_)
        · obtain ⟨d, hdi⟩ : ∃ d, ds[i]? = some d := ⟨_, List.getElem?_eq_getElem (by omega)⟩
          obtain ⟨v1, hv1, p1⟩ := dpAt d1 hdi
          obtain ⟨v2, hv2, p2⟩ := dpAt d2 hdi
          rw [Int.zero_add]
          walk_at "wr"
          refine x_ixL (L'.sqL (by simp) h1) (atI_nat hv1) ?_
          walk_at "wr"
          refine x_ixL (L'.sqL (by simp) h2) (atI_nat hv2) ?_
          walk_at "wr"
          refine ⟨v1, v2, d, rfl, Dp.keep L'.md _ _ p1, Dp.keep L'.md _ _ p2, hd d (List.mem_of_getElem? hdi), fun H2 m2 => ?_⟩
          have Lb := L'.stay m2
          walk_at "wr"
          exact Lb
        · walk_at "wr"
          rename_i p1 H1 La
          refine x_eqNil (SqL.of (La.get 1 rfl)) (SqL.of (La.get 0 rfl)) .nil (by simp) (by simp) ?_
          walk_at "wr"
          exact k _ La.md
  | @tup _ ds hd dl =>
    cases hx with
    | tup h1 d1 =>
      cases hy with
      | tup h2 d2 =>
        walk_at "wr"
        walk_at "wd"
        walk_at "wr"
        walk_at "wd"
        walk_at "wr"
        have e1 := dpLen d1
        have e2 := dpLen d2
        rw [decide_eq_true (by omega)]
        walk_at "wr"
        refine LcV.rng L (fun D i H' => Led [] H H' [] [(D, .lst [])] (fun _ => True)) (fun D H' L' => L') (fun D i H' hi L' => ?_) (fun D H' L' => ?_)
        · obtain ⟨d, hdi⟩ : ∃ d, ds[i]? = some d := ⟨_, List.getElem?_eq_getElem (by omega)⟩
          obtain ⟨v1, hv1, p1⟩ := dpAt d1 hdi
          obtain ⟨v2, hv2, p2⟩ := dpAt d2 hdi
          rw [Int.zero_add]
          walk_at "wr"
          refine x_ixT (L'.sqT h1) (atI_nat hv1) ?_
          walk_at "wr"
          refine x_ixT (L'.sqT h2) (atI_nat hv2) ?_
          walk_at "wr"
          refine ⟨v1, v2, d, rfl, Dp.keep L'.md _ _ p1, Dp.keep L'.md _ _ p2, hd d (List.mem_of_getElem? hdi), fun H2 m2 => ?_⟩
          have Lb := L'.stay m2
          walk_at "wr"
          exact Lb
        · walk_at "wr"
          rename_i p1 H1 La
          refine x_eqNil (SqL.of (La.get 1 rfl)) (SqL.of (La.get 0 rfl)) .nil (by simp) (by simp) ?_
          walk_at "wr"
          exact k _ La.md
theorem relax_len (f : List (Option Int)) (b : B) : (relax f b).length = f.length := by
  unfold relax
  cases f.getD b.1.toNat none with
  | none => rfl
  | some x =>
    show (if better (x + b.2.2) (f.getD b.2.1.toNat none) = true then f.set b.2.1.toNat (some (x + b.2.2)) else f).length = _
    split
    · rw [List.length_set]
    · rfl
theorem round_len (bs : List B) : ∀ f : List (Option Int), (round bs f).length = f.length := by
  induction bs with
  | nil => intro f; rfl
  | cons b bs ih =>
    intro f
    show (round bs (relax f b)).length = _
    rw [ih, relax_len]
theorem rounds_len (bs : List B) : ∀ (k : Nat) (f : List (Option Int)), (rounds bs k f).length = f.length
  | 0, f => rfl
  | k + 1, f => by
    show (rounds bs k (round bs f)).length = _
    rw [rounds_len bs k, round_len]
theorem rounds_more (bs : List B) : ∀ (k : Nat) (f : List (Option Int)), rounds bs (k + 1) f = round bs (rounds bs k f)
  | 0, f => rfl
  | k + 1, f => by
    show rounds bs (k + 1) (round bs f) = _
    rw [rounds_more bs k]
    rfl
theorem rounds_fix {bs : List B} {f : List (Option Int)} (h : round bs f = f) : ∀ k, rounds bs k f = f
  | 0 => rfl
  | k + 1 => by
    show rounds bs k (round bs f) = f
    rw [h]
    exact rounds_fix h k
theorem rounds_add (bs : List B) : ∀ (j k : Nat) (f : List (Option Int)), rounds bs (j + k) f = rounds bs k (rounds bs j f)
  | 0, k, f => by rw [Nat.zero_add]; rfl
  | j + 1, k, f => by
    rw [show j + 1 + k = (j + k) + 1 by omega]
    show rounds bs (j + k) (round bs f) = _
    rw [rounds_add bs j k]
    rfl
theorem len_lengths_from {K : Frag} {ad : Ad} : ∀ vs H Q E, sp_lengths_from K ad vs H Q E → vs.length = 3 := fun vs H Q E h => by
  obtain ⟨_, _, _, _, _, rfl, _⟩ := h; rfl
theorem pure_lengths_from {K : Frag} {mg : Str → Option Value} {ad : Ad} (T : Txt K mg ad) (vs : List V) (H : Hp) (Q : VK) (E : XK) (h : sp_lengths_from K ad vs H Q E) : t_lengths_from K ad { nx := fun _ H' => Q .non H', rt := Q } (L2.start ["many", "start", "ways", "found", "_", "before", "one", "other", "length", "point"] vs) H := by
  obtain ⟨n, s, a, us, bs, rfl, hs, ht, ok, hl, n0, n1, s0, s1, k⟩ := h
  have L := Led.start0 H
  have el := pairLen ht
  unfold t_lengths_from
  walk_at "wr"
  refine LcV.rng L (fun D i H' => Led [] H H' [] [(D, .lst (((begin0 n s).take i).map oV))] (fun _ => True)) (fun D H' L' => by simpa using L') (fun D i H' hi L' => ?_) (fun D H' L' => ?_)
  · rw [Int.toNat_natCast] at hi
    have hbi : (begin0 n s)[i]? = some (if (i : Int) = s then some 0 else none) := by
      unfold begin0
      rw [List.getElem?_map, List.getElem?_range hi]
      rfl
    have more := take_more hbi
    have lb : ((begin0 n s).take i).length ≤ 100 := by rw [List.length_take]; omega
    rw [Int.zero_add]
    walk_at "wr"
    refine IfT.by_ (fun c => ?_) (fun c => ?_)
    · walk_at "wr"
      refine AccV.mk 0 L' rfl (line_lt (by rw [List.length_map]; omega)) fun H2 La => ?_
      rw [more, List.map_append, if_pos (of_decide_eq_true c)]
      exact La
    · walk_at "wr"
      refine AccV.mk 0 L' rfl (line_lt (by rw [List.length_map]; omega)) fun H2 La => ?_
      rw [more, List.map_append, if_neg (of_decide_eq_false c)]
      exact La
  · have lb : (begin0 n s).length = n := by unfold begin0; simp
    rw [Int.toNat_natCast, List.take_of_length_le (by omega)] at L'
    walk_at "wr"
    refine ForV.rng (fun i σ H' => ∃ v4 v5 v6 v7 v8, σ = [some (.int n), some (.int s), some (.ref a), some (.ref D), v4, v5, v6, v7, v8, none] ∧ Led [] H H' [] [(D, .lst ((rounds bs i (begin0 n s)).map oV))] (fun _ => True))
      ⟨_, _, _, _, _, rfl, L'⟩ (fun i σ H' hi ⟨v4, v5, v6, v7, v8, e, La⟩ => ?_) (fun σ H' ⟨v4, v5, v6, v7, v8, e, La⟩ => ?_)
    · subst e
      walk_at "wr"
      rename_i p1 H1 Lb
      have hs1 := Lb.sqT hs
      walk_at "wr"
      have fl : ∀ j, ((bs.take j).foldl relax (rounds bs i (begin0 n s))).length = n := fun j => by
        rw [show (bs.take j).foldl relax (rounds bs i (begin0 n s)) = round (bs.take j) (rounds bs i (begin0 n s)) from rfl, round_len, rounds_len, lb]
      refine ForV.tup (K := K) (a := a) (xs := us) (fun j σ H' => ∃ v6 v7 v8, σ = [some (.int n), some (.int s), some (.ref a), some (.ref D), some (.int (0 + (i : Int))), some (.ref p1), v6, v7, v8, none] ∧
          Led [] H H' [] [(p1, .lst ((rounds bs i (begin0 n s)).map oV)), (D, .lst (((bs.take j).foldl relax (rounds bs i (begin0 n s))).map oV))] (fun _ => True))
        ⟨_, _, _, rfl, by simpa using Lb⟩ (fun j σ H' hj ⟨_, _, _, _, Lc⟩ => Lc.sqT hs) (fun j x σ H' hx ⟨v6, v7, v8, e, Lc⟩ => ?_) (fun σ H' ⟨v6, v7, v8, e, Lc⟩ => ?_)
      · subst e
        obtain ⟨b, hb, ta, rfl, hta⟩ := pairAt ht hx
        obtain ⟨b1, b2, b3⟩ := b
        obtain ⟨i0, i1, j0, j1, ij⟩ := ok _ (List.mem_of_getElem? hb)
        dsimp only at i0 i1 j0 j1 ij hta
        have hq := Lc.sqT hta
        have step : (bs.take (j + 1)).foldl relax (rounds bs i (begin0 n s)) = relax ((bs.take j).foldl relax (rounds bs i (begin0 n s))) (b1, b2, b3) := by rw [take_more hb, List.foldl_append]; rfl
        have flj := fl j
        generalize hF : (bs.take j).foldl relax (rounds bs i (begin0 n s)) = F at *
        obtain ⟨x, hx1⟩ : ∃ x, F[b1.toNat]? = some x := ⟨_, List.getElem?_eq_getElem (by omega)⟩
        obtain ⟨y, hy1⟩ : ∃ y, F[b2.toNat]? = some y := ⟨_, List.getElem?_eq_getElem (by omega)⟩
        have ax : atI (F.map oV) b1 = some (oV x) := atI_int i0 (by rw [List.getElem?_map, hx1]; rfl)
        have ay : atI (F.map oV) b2 = some (oV y) := atI_int j0 (by rw [List.getElem?_map, hy1]; rfl)
        have hD : SqL K H' D (F.map oV) := SqL.of (Lc.get 1 rfl)
        have gx : F.getD b1.toNat none = x := by rw [List.getD_eq_getElem?_getD, hx1]; rfl
        have gy : F.getD b2.toNat none = y := by rw [List.getD_eq_getElem?_getD, hy1]; rfl
        walk_at "wr"
        refine x_ixL hD ax ?_
        cases x with
        | none =>
          have rz : relax F (b1, b2, b3) = F := by unfold relax; rw [gx]
          refine x_notNN ?_
          walk_at "wr"
          exact ⟨_, _, _, rfl, by rw [step, rz]; exact Lc⟩
        | some x =>
          have rz : relax F (b1, b2, b3) = if better (x + b3) y = true then F.set b2.toNat (some (x + b3)) else F := by unfold relax; rw [gx]; simp only [gy]
          refine x_notIN ?_
          have fin : ∀ H2, better (x + b3) y = true → Led [] H H2 [] [(p1, .lst ((rounds bs i (begin0 n s)).map oV)), (D, .lst ((F.map oV).set b2.toNat (.int (x + b3))))] (fun _ => True) →
              Led [] H H2 [] [(p1, .lst ((rounds bs i (begin0 n s)).map oV)), (D, .lst (((bs.take (j + 1)).foldl relax (rounds bs i (begin0 n s))).map oV))] (fun _ => True) := fun H2 hb Ld => by
            rw [step, rz, if_pos hb, List.map_set]
            exact Ld
          have ixb : ixN (F.map oV).length b2 = some b2.toNat := ixN_int j0 (by rw [List.length_map]; omega)
          walk_at "wr"
          refine x_ixL hD ay ?_
          cases y with
          | none =>
            refine x_isNN ?_
            walk_at "wr"
            refine x_ixL hD ax ?_
            walk_at "wr"
            exact x_setL (m := b2.toNat) 1 Lc rfl ixb fun H2 Ld => ⟨_, _, _, rfl, fin H2 rfl Ld⟩
          | some y =>
            refine x_isIN ?_
            walk_at "wr"
            refine x_ixL hD ax ?_
            walk_at "wr"
            refine x_ixL hD ay ?_
            walk_at "wr"
            refine IfS.by_ (fun c => ?_) (fun c => ?_)
            · walk_at "wr"
              refine x_ixL hD ax ?_
              walk_at "wr"
              exact x_setL (m := b2.toNat) 1 Lc rfl ixb fun H2 Ld => ⟨_, _, _, rfl, fin H2 c Ld⟩
            · walk_at "wr"
              refine ⟨_, _, _, rfl, ?_⟩
              rw [step, rz, if_neg (by rw [show better (x + b3) (some y) = _ from c]; exact Bool.false_ne_true)]
              exact Lc
      · subst e
        walk_at "wr"
        have fle := fl us.length
        rw [List.take_of_length_le (by omega)] at Lc fle
        have e1 : bs.foldl relax (rounds bs i (begin0 n s)) = rounds bs (i + 1) (begin0 n s) := (rounds_more bs i _).symm
        rw [e1] at Lc fle
        refine x_eqOpts (xs := rounds bs (i + 1) (begin0 n s)) (ys := rounds bs i (begin0 n s)) (SqL.of (Lc.get 1 rfl)) (SqL.of (Lc.get 0 rfl)) (by omega) (by rw [rounds_len]; omega) ?_
        walk_at "wr"
        refine IfS.by_ (fun c => ?_) (fun c => ?_)
        · have fx := of_decide_eq_true c
          rw [rounds_more] at fx
          have fin : rounds bs (i + 1) (begin0 n s) = lengths bs n s := by
            unfold lengths
            have e0 : rounds bs (n - 1) (begin0 n s) = rounds bs (i + (n - 1 - i)) (begin0 n s) := congrArg (fun k => rounds bs k (begin0 n s)) (by omega)
            have e1 : rounds bs (i + (n - 1 - i)) (begin0 n s) = rounds bs i (begin0 n s) := by
              rw [rounds_add]
              exact rounds_fix fx _
            have e2 : rounds bs (i + 1) (begin0 n s) = rounds bs i (begin0 n s) := by
              rw [rounds_more]
              exact fx
            exact e2.trans ((e0.trans e1).symm)
          rw [fin] at Lc
          walk_at "wr"
          exact k _ _ (Lc.fresh0 1 rfl) Lc.md (Lc.get 1 rfl)
        · walk_at "wr"
          exact ⟨_, _, _, _, _, rfl, Lc.sub (List.sublist_cons_self _ _)⟩
    · subst e
      walk_at "wr"
      have fin : rounds bs ((n : Int) - 1).toNat (begin0 n s) = lengths bs n s := by
        unfold lengths
        rw [show ((n : Int) - 1).toNat = n - 1 by omega]
      rw [fin] at La
      exact k _ _ (La.fresh0 0 rfl) La.md (La.get 0 rfl)
theorem lower_len (s : Lo) (w : V × B) : (lower s w).len.length = s.len.length ∧ (lower s w).last.length = s.last.length := by
  unfold lower
  split
  · exact ⟨by simp, by simp⟩
  · exact ⟨rfl, rfl⟩
theorem fold_lower_len (ws : List (V × B)) : ∀ s : Lo, (ws.foldl lower s).len.length = s.len.length ∧ (ws.foldl lower s).last.length = s.last.length := by
  induction ws with
  | nil => intro s; exact ⟨rfl, rfl⟩
  | cons w ws ih =>
    intro s
    rw [List.foldl_cons, (ih _).1, (ih _).2]
    exact lower_len s w
theorem lowRound_len (ws : List (V × B)) (s : Lo) : (lowRound ws s).len.length = s.len.length ∧ (lowRound ws s).last.length = s.last.length := fold_lower_len ws _
/-- the rounds so far, none ended -/
def lowIter (ws : List (V × B)) : Nat → Lo → Lo
  | 0, s => s
  | k + 1, s => lowRound ws (lowIter ws k s)
theorem lowRounds_iter (ws : List (V × B)) : ∀ (k : Nat) (s : Lo), (∀ j, j < k → (lowIter ws (j + 1) s).low ≠ none) → lowRounds ws k s = lowIter ws k s
  | 0, s, _ => rfl
  | k + 1, s, h => by
    have h0 : (lowRound ws s).low ≠ none := h 0 (by omega)
    show (if (lowRound ws s).low = none then lowRound ws s else lowRounds ws k (lowRound ws s)) = _
    have sh : ∀ j, lowIter ws j (lowRound ws s) = lowIter ws (j + 1) s := by
      intro j
      induction j with
      | zero => rfl
      | succ j ih => show lowRound ws (lowIter ws j (lowRound ws s)) = _; rw [ih]; rfl
    rw [if_neg h0, lowRounds_iter ws k _ (fun j hj => by rw [sh]; exact h (j + 1) (by omega)), sh]
theorem lowRounds_stop (ws : List (V × B)) : ∀ (k i : Nat) (s : Lo), i < k → (∀ j, j < i → (lowIter ws (j + 1) s).low ≠ none) → (lowIter ws (i + 1) s).low = none → lowRounds ws k s = lowIter ws (i + 1) s
  | 0, i, s, hi, _, _ => by omega
  | k + 1, i, s, hi, h, e => by
    show (if (lowRound ws s).low = none then lowRound ws s else lowRounds ws k (lowRound ws s)) = _
    have sh : ∀ j, lowIter ws j (lowRound ws s) = lowIter ws (j + 1) s := by
      intro j
      induction j with
      | zero => rfl
      | succ j ih => show lowRound ws (lowIter ws j (lowRound ws s)) = _; rw [ih]; rfl
    cases i with
    | zero => exact if_pos e
    | succ i =>
      have h0 : (lowRound ws s).low ≠ none := h 0 (by omega)
      rw [if_neg h0, lowRounds_stop ws k i _ (by omega) (fun j hj => by rw [sh]; exact h (j + 1) (by omega)) (by rw [sh]; exact e), sh]
def low0 (n : Nat) : Lo := ⟨List.replicate n 0, List.replicate n none, none⟩
theorem lowIter_len (ws : List (V × B)) (n : Nat) : ∀ k, (lowIter ws k (low0 n)).len.length = n ∧ (lowIter ws k (low0 n)).last.length = n
  | 0 => ⟨by simp [lowIter, low0], by simp [lowIter, low0]⟩
  | k + 1 => by
    show (lowRound ws (lowIter ws k (low0 n))).len.length = n ∧ _
    rw [(lowRound_len ws _).1]
    exact ⟨(lowIter_len ws n k).1, (lowRound_len ws _).2.trans (lowIter_len ws n k).2⟩
theorem len_last_lowered {K : Frag} {ad : Ad} : ∀ vs H Q E, sp_last_lowered K ad vs H Q E → vs.length = 2 := fun vs H Q E h => by
  obtain ⟨_, _, _, rfl, _⟩ := h; rfl
theorem pure_last_lowered {K : Frag} {mg : Str → Option Value} {ad : Ad} (T : Txt K mg ad) (vs : List V) (H : Hp) (Q : VK) (E : XK) (h : sp_last_lowered K ad vs H Q E) : t_last_lowered K ad { nx := fun _ H' => Q .non H', rt := Q } (L2.start ["many", "ways", "lengths", "last", "lowered", "_", "way", "one", "other", "length"] vs) H := by
  obtain ⟨n, a, ws, rfl, hs, ht, ok, hl, n0, n1, k⟩ := h
  have L := Led.start0 H
  unfold t_last_lowered
  walk_at "wr"
  rename_i p1 H1 La
  refine x_mulL La (La.get 0 rfl) (by omega) (by omega) (line_big (by simp; omega)) fun p2 H2 Lb => ?_
  walk_at "wr"
  rename_i p3 H3 Lc
  refine x_mulL Lc (Lc.get 0 rfl) (by omega) (by omega) (line_big (by simp; omega)) fun p4 H4 Ld => ?_
  have rep : ∀ v : V, (List.replicate ((n : Int)).toNat [v]).flatten = List.replicate n v := fun v => by rw [Int.toNat_natCast]; simp
  rw [rep] at Ld
  replace Ld := Ld.sub (ls' := [(p4, .lst (List.replicate n .non)), (p2, .lst (List.replicate n (.int 0)))]) (by rw [rep]; exact .cons₂ _ (.cons _ (.cons₂ _ (.cons _ .slnil))))
  walk_at "wr"
  refine ForV.rng (fun i σ H' => ∃ v4 v5 v6 v7 v8 v9, σ = [some (.int n), some (.ref a), some (.ref p2), some (.ref p4), v4, v5, v6, v7, v8, v9] ∧ (∀ j, j < i → (lowIter ws (j + 1) (low0 n)).low ≠ none) ∧
      (0 < i → v4 = some (oV (lowIter ws i (low0 n)).low)) ∧ Led [] H H' [] [(p4, .lst ((lowIter ws i (low0 n)).last.map wV)), (p2, .lst ((lowIter ws i (low0 n)).len.map V.int))] (fun _ => True))
    ⟨_, _, _, _, _, _, rfl, fun j hj => by omega, fun z => by omega, by simpa [lowIter, low0, wV] using Ld⟩ (fun i σ H' hi ⟨v4, v5, v6, v7, v8, v9, e, nl, vl, Le⟩ => ?_) (fun σ H' ⟨v4, v5, v6, v7, v8, v9, e, nl, vl, Le⟩ => ?_)
  · subst e
    walk_at "wr"
    have hs1 := Le.sqT hs
    walk_at "wr"
    have el := fun j => (fold_lower_len (ws.take j) { (lowIter ws i (low0 n)) with low := none })
    have il := lowIter_len ws n i
    refine ForV.tup (K := K) (a := a) (xs := ws.map (·.1)) (fun j σ H' => ∃ v6 v7 v8 v9, σ = [some (.int n), some (.ref a), some (.ref p2), some (.ref p4), some (oV ((ws.take j).foldl lower { (lowIter ws i (low0 n)) with low := none }).low), some (.int (0 + (i : Int))), v6, v7, v8, v9] ∧
        Led [] H H' [] [(p4, .lst (((ws.take j).foldl lower { (lowIter ws i (low0 n)) with low := none }).last.map wV)), (p2, .lst (((ws.take j).foldl lower { (lowIter ws i (low0 n)) with low := none }).len.map V.int))] (fun _ => True))
      ⟨_, _, _, _, rfl, by simpa using Le⟩ (fun j σ H' hj ⟨_, _, _, _, _, Lf⟩ => Lf.sqT hs) (fun j x σ H' hx ⟨v6, v7, v8, v9, e, Lf⟩ => ?_) (fun σ H' ⟨v6, v7, v8, v9, e, Lf⟩ => ?_)
    · subst e
      obtain ⟨w, hw, rfl⟩ : ∃ w, ws[j]? = some w ∧ w.1 = x := by
        rw [List.getElem?_map] at hx
        cases e : ws[j]? with
        | none => rw [e] at hx; cases hx
        | some w => rw [e] at hx; exact ⟨w, rfl, Option.some.inj hx⟩
      have hw2 : (ws.map (·.2))[j]? = some w.2 := by rw [List.getElem?_map, hw]; rfl
      obtain ⟨v, hv, ta, e1, hta⟩ := pairAt' ht hw2
      have e2 : v = w.1 := by
        rw [List.getElem?_map, hw] at hv
        exact (Option.some.inj hv).symm
      subst e2
      obtain ⟨i0, i1, j0, j1, ij⟩ := ok _ (List.mem_of_getElem? hw)
      have step : (ws.take (j + 1)).foldl lower { (lowIter ws i (low0 n)) with low := none } = lower ((ws.take j).foldl lower { (lowIter ws i (low0 n)) with low := none }) w := by rw [take_more hw, List.foldl_append]; rfl
      have elj := el j
      rw [il.1, il.2] at elj
      generalize hF : (ws.take j).foldl lower { (lowIter ws i (low0 n)) with low := none } = F at *
      have hq := Lf.sqT hta
      obtain ⟨wv, ⟨b1, b2, b3⟩⟩ := w
      dsimp only at i0 i1 j0 j1 ij hta hq e1
      subst e1
      obtain ⟨x, hx1⟩ : ∃ x, F.len[b1.toNat]? = some x := ⟨_, List.getElem?_eq_getElem (by omega)⟩
      obtain ⟨y, hy1⟩ : ∃ y, F.len[b2.toNat]? = some y := ⟨_, List.getElem?_eq_getElem (by omega)⟩
      have gx : F.len.getD b1.toNat 0 = x := by rw [List.getD_eq_getElem?_getD, hx1]; rfl
      have gy : F.len.getD b2.toNat 0 = y := by rw [List.getD_eq_getElem?_getD, hy1]; rfl
      have ax : atI (F.len.map V.int) b1 = some (.int x) := atI_int i0 (by rw [List.getElem?_map, hx1]; rfl)
      have ay : atI (F.len.map V.int) b2 = some (.int y) := atI_int j0 (by rw [List.getElem?_map, hy1]; rfl)
      have hD : SqL K H' p2 (F.len.map V.int) := SqL.of (Lf.get 1 rfl)
      have rz : lower F (.ref ta, b1, b2, b3) = if x + b3 < y then ⟨F.len.set b2.toNat (x + b3), F.last.set b2.toNat (some (.ref ta, b1, b2, b3)), some b2⟩ else F := by unfold lower; simp only [gx, gy]
      walk_at "wr"
      refine x_ixL hD ax ?_
      walk_at "wr"
      refine x_ixL hD ay ?_
      walk_at "wr"
      refine IfS.by_ (fun c => ?_) (fun c => ?_)
      · have c' := of_decide_eq_true c
        walk_at "wr"
        refine x_ixL hD ax ?_
        walk_at "wr"
        refine x_setL (m := b2.toNat) 1 Lf rfl (ixN_int j0 (by rw [List.length_map]; omega)) fun H2 Lg => ?_
        walk_at "wr"
        refine x_setL (m := b2.toNat) 0 Lg rfl (ixN_int j0 (by rw [List.length_map]; omega)) fun H3 Lh => ?_
        walk_at "wr"
        rw [step, rz, if_pos c']
        refine ⟨_, _, _, _, rfl, ?_⟩
        rw [List.map_set, List.map_set]
        exact Lh
      · have c' := of_decide_eq_false c
        walk_at "wr"
        rw [step, rz, if_neg c']
        exact ⟨_, _, _, _, rfl, Lf⟩
    · subst e
      rw [show (ws.map (·.1)).length = ws.length by simp, List.take_length] at *
      have e1 : ws.foldl lower { (lowIter ws i (low0 n)) with low := none } = lowIter ws (i + 1) (low0 n) := rfl
      rw [e1] at *
      walk_at "wr"
      cases hlow : (lowIter ws (i + 1) (low0 n)).low with
      | none =>
        have fin : lows ws n = lowIter ws (i + 1) (low0 n) := lowRounds_stop ws n i (low0 n) (by omega) nl hlow
        refine x_isNN ?_
        walk_at "wr"
        rename_i t H2 Lg
        refine k _ _ _ (Lg.fresh0 1 rfl) (Lg.fresh0 0 rfl) (Lg.ne 0 1 rfl rfl (by decide)) Lg.md ?_ ?_
        · rw [fin, hlow]; exact Lg.get 0 rfl
        · rw [fin]; exact Lg.get 1 rfl
      | some z =>
        refine x_isIN ?_
        walk_at "wr"
        refine ⟨_, _, _, _, _, _, rfl, fun j hj => ?_, fun _ => rfl, Lf⟩
        by_cases hji : j = i
        · subst hji; rw [hlow]; exact fun z => nomatch z
        · exact nl j (by omega)
  · subst e
    have vl' := vl (by omega)
    subst vl'
    rw [Int.toNat_natCast] at *
    have fin : lows ws n = lowIter ws n (low0 n) := lowRounds_iter ws n (low0 n) nl
    rw [← fin] at Le
    walk_at "wr"
    rename_i t H2 Lg
    refine k _ _ _ (Lg.fresh0 1 rfl) (Lg.fresh0 0 rfl) (Lg.ne 0 1 rfl rfl (by decide)) Lg.md ?_ (Lg.get 1 rfl)
    rw [fin]
    exact Lg.get 0 rfl
/-! # Walks -/
theorem Wk.one {bs : List B} {b : B} (h : b ∈ bs) : Wk bs b.1 b.2.1 b.2.2 1 := by
  have := Wk.snoc (Wk.nil (bs := bs) b.1) h rfl
  rwa [Int.zero_add] at this
theorem Wk.app {bs : List B} {i j l c d : Int} {k m : Nat} (h : Wk bs i j c k) (g : Wk bs j l d m) : Wk bs i l (c + d) (k + m) := by
  induction g with
  | nil => simpa using h
  | snoc _ hb e ih =>
    have := Wk.snoc ih hb e
    rw [Int.add_assoc, Nat.add_assoc] at this
    exact this
theorem Wk.more {bs cs : List B} {i j c : Int} {k : Nat} (h : Wk bs i j c k) (s : ∀ b ∈ bs, b ∈ cs) : Wk cs i j c k := by
  induction h with
  | nil => exact .nil _
  | snoc _ hb e ih => exact .snoc ih (s _ hb) e
/-- a height that no bound lifts above itself -/
theorem Wk.pot {bs : List B} {p : Int → Int} (hp : ∀ b ∈ bs, p b.2.1 ≤ p b.1 + b.2.2) {i j c : Int} {k : Nat} (h : Wk bs i j c k) : p j ≤ p i + c := by
  induction h with
  | nil => omega
  | snoc _ hb e ih => have := hp _ hb; rw [e]; omega
theorem free_of_pot {bs : List B} {p : Int → Int} (hp : ∀ b ∈ bs, p b.2.1 ≤ p b.1 + b.2.2) : Free bs := fun i c k h => by
  have := h.pot hp
  omega
theorem Wk.place {bs : List B} {n : Int} (ok : ∀ b ∈ bs, Ok n b) {i j c : Int} {k : Nat} (h : Wk bs i j c k) (hi : 0 ≤ i ∧ i < n) : 0 ≤ j ∧ j < n := by
  induction h with
  | nil => exact hi
  | snoc _ hb e ih => have := ok _ hb; exact ⟨e ▸ this.2.2.1, e ▸ this.2.2.2.1⟩
theorem pigeon : ∀ (n : Nat) (f : Nat → Nat), (∀ i, i ≤ n → f i < n) → ∃ i j, i < j ∧ j ≤ n ∧ f i = f j
  | 0, f, h => absurd (h 0 (Nat.le_refl 0)) (Nat.not_lt_zero _)
  | n + 1, f, h => by
    by_cases hc : ∃ i, i ≤ n ∧ f i = f (n + 1)
    · obtain ⟨i, hi, e⟩ := hc
      exact ⟨i, n + 1, by omega, by omega, e⟩
    · have ne : ∀ i, i ≤ n → f i ≠ f (n + 1) := fun i hi e => hc ⟨i, hi, e⟩
      obtain ⟨i, j, h1, h2, h3⟩ := pigeon n (fun i => if f i < f (n + 1) then f i else f i - 1) (fun i hi => by
        have a := h i (by omega)
        have b := h (n + 1) (by omega)
        have c := ne i hi
        show (if f i < f (n + 1) then f i else f i - 1) < n
        split <;> omega)
      refine ⟨i, j, h1, by omega, ?_⟩
      have a := ne i (by omega)
      have b := ne j h2
      replace h3 : (if f i < f (n + 1) then f i else f i - 1) = (if f j < f (n + 1) then f j else f j - 1) := h3
      split at h3 <;> split at h3 <;> omega
/-- a walk, cut at each of its points -/
theorem Wk.cut {bs : List B} {i j c : Int} {k : Nat} (h : Wk bs i j c k) : ∃ p : Nat → Int, ∃ s : Nat → Int, p 0 = i ∧ s 0 = 0 ∧ p k = j ∧ s k = c ∧ ∀ a b, a ≤ b → b ≤ k → Wk bs (p a) (p b) (s b - s a) (b - a) := by
  induction h with
  | nil => exact ⟨fun _ => i, fun _ => 0, rfl, rfl, rfl, rfl, fun a b hm hb => by
      rw [show b - a = 0 by omega]
      exact .nil _⟩
  | @snoc j c k b w hb e ih =>
    obtain ⟨p, s, e3, e4, e1, e2, h⟩ := ih
    refine ⟨fun m => if m = k + 1 then j else p m, fun m => if m = k + 1 then c + b.2.2 else s m, by simpa using e3, by simpa using e4, by simp, by simp, fun x y hx hy => ?_⟩
    by_cases hk : y = k + 1
    · subst hk
      by_cases hk' : x = k + 1
      · subst hk'
        simp only [if_true]
        rw [Int.sub_self, Nat.sub_self]
        exact .nil _
      · simp only [if_true, if_neg hk']
        have := Wk.snoc (e1 ▸ e2 ▸ h x k (by omega) (Nat.le_refl _)) hb e
        rw [show c - s x + b.2.2 = c + b.2.2 - s x by omega, show k - x + 1 = k + 1 - x by omega] at this
        exact this
    · simp only [if_neg hk, if_neg (show ¬ x = k + 1 by omega)]
      exact h x y hx (by omega)
/-- where no ring is below 0, a walk of as many steps as points can be shortened -/
theorem Wk.short {bs : List B} {n : Nat} (ok : ∀ b ∈ bs, Ok n b) (fr : Free bs) : ∀ (k : Nat) {i j c : Int}, 0 ≤ i → i < n → Wk bs i j c k → ∃ c' k', c' ≤ c ∧ k' < n ∧ Wk bs i j c' k' := by
  intro k
  induction k using Nat.strongRecOn with
  | ind k ih =>
    intro i j c i0 i1 h
    by_cases hk : k < n
    · exact ⟨c, k, Int.le_refl c, hk, h⟩
    · obtain ⟨p, s, e3, e4, e1, e2, hc⟩ := h.cut
      have w0 : ∀ m, m ≤ k → Wk bs i (p m) (s m) m := fun m hm => by
        have := hc 0 m (by omega) hm
        rw [e3, e4, Int.sub_zero] at this
        exact this
      have pl : ∀ m, m ≤ k → 0 ≤ p m ∧ p m < n := fun m hm => (w0 m hm).place ok ⟨i0, i1⟩
      obtain ⟨a, b, h1, h2, h3⟩ := pigeon n (fun m => (p m).toNat) (fun m hm => by have := pl m (by omega); show (p m).toNat < n; omega)
      replace h3 : (p a).toNat = (p b).toNat := h3
      have pe : p a = p b := by have := pl a (by omega); have := pl b (by omega); omega
      have ring := hc a b (by omega) (by omega)
      rw [← pe] at ring
      have pos := fr _ _ _ ring
      have tail := hc b k (by omega) (Nat.le_refl _)
      rw [← pe, e1, e2] at tail
      obtain ⟨c', k', l1, l2, l3⟩ := ih (a + (k - b)) (by omega) i0 i1 ((w0 a (by omega)).app tail)
      exact ⟨c', k', by omega, l2, l3⟩
/-! # Lengths -/
/-- at most, where none is without end -/
def LeO (x y : Option Int) : Prop := ∀ c, y = some c → ∃ b, x = some b ∧ b ≤ c
theorem LeO.rfl' {x : Option Int} : LeO x x := fun c e => ⟨c, e, Int.le_refl c⟩
theorem LeO.trans {x y z : Option Int} (h : LeO x y) (g : LeO y z) : LeO x z := fun c e => by
  obtain ⟨b, e1, l1⟩ := g c e
  obtain ⟨a, e2, l2⟩ := h b e1
  exact ⟨a, e2, by omega⟩
theorem better_le {v : Int} {y : Option Int} (h : better v y = true) : LeO (some v) y := fun c e => by
  subst e
  exact ⟨v, rfl, Int.le_of_lt (of_decide_eq_true h)⟩
theorem not_better {v : Int} {y : Option Int} (h : better v y ≠ true) : LeO y (some v) := fun c e => by
  cases e
  cases y with
  | none => exact absurd rfl h
  | some y => exact ⟨y, rfl, by
      have : ¬ v < y := fun z => h (decide_eq_true z)
      omega⟩
theorem getD_set {α : Type _} {d : α} (f : List α) (i j : Nat) (v : α) : (f.set i v).getD j d = if i = j ∧ i < f.length then v else f.getD j d := by
  rw [List.getD_eq_getElem?_getD, List.getD_eq_getElem?_getD, List.getElem?_set]
  by_cases h : i = j
  · subst h
    by_cases h2 : i < f.length
    · simp [h2]
    · simp [h2]
  · simp [h]
theorem relax_le (f : List (Option Int)) (b : B) (v : Nat) : LeO ((relax f b).getD v none) (f.getD v none) := by
  unfold relax
  cases hx : f.getD b.1.toNat none with
  | none => exact .rfl'
  | some x =>
    show LeO ((if better (x + b.2.2) (f.getD b.2.1.toNat none) = true then f.set b.2.1.toNat (some (x + b.2.2)) else f).getD v none) _
    split
    · rename_i hb
      rw [getD_set]
      split
      · rename_i he
        rw [← he.1]
        exact better_le hb
      · exact .rfl'
    · exact .rfl'
theorem relax_edge {n : Nat} (f : List (Option Int)) (b : B) (ok : Ok n b) (hl : f.length = n) {c : Int} (h : f.getD b.1.toNat none = some c) : LeO ((relax f b).getD b.2.1.toNat none) (some (c + b.2.2)) := by
  unfold relax
  rw [h]
  show LeO ((if better (c + b.2.2) (f.getD b.2.1.toNat none) = true then f.set b.2.1.toNat (some (c + b.2.2)) else f).getD _ none) _
  obtain ⟨i0, i1, j0, j1, ij⟩ := ok
  split
  · rename_i hb
    rw [getD_set, if_pos ⟨rfl, by omega⟩]
    exact .rfl'
  · rename_i hb
    exact not_better hb
theorem round_le (bs : List B) : ∀ (f : List (Option Int)) (v : Nat), LeO ((round bs f).getD v none) (f.getD v none) := by
  induction bs with
  | nil => intro f v; exact .rfl'
  | cons b bs ih =>
    intro f v
    exact (ih (relax f b) v).trans (relax_le f b v)
theorem round_edge {n : Nat} : ∀ (bs : List B) (f : List (Option Int)) (b : B), (∀ b ∈ bs, Ok n b) → b ∈ bs → f.length = n → ∀ c, f.getD b.1.toNat none = some c → LeO ((round bs f).getD b.2.1.toNat none) (some (c + b.2.2))
  | [], f, b, ok, hb, hl, c, h => nomatch hb
  | e :: bs, f, b, ok, hb, hl, c, h => by
    show LeO ((round bs (relax f e)).getD b.2.1.toNat none) _
    rcases List.mem_cons.mp hb with rfl | hb'
    · exact (round_le bs _ _).trans (relax_edge f b (ok b List.mem_cons_self) hl h)
    · obtain ⟨c', e1, l1⟩ := relax_le f e b.1.toNat c h
      refine (round_edge bs (relax f e) b (fun b hb => ok b (List.mem_cons_of_mem _ hb)) hb' (by rw [relax_len, hl]) c' e1).trans fun d hd => ?_
      cases hd
      exact ⟨_, rfl, by omega⟩
/-- behind so many rounds, walks of so many steps are reckoned with -/
theorem rounds_walk {n : Nat} {bs : List B} (ok : ∀ b ∈ bs, Ok n b) {f : List (Option Int)} (hl : f.length = n) {s j c : Int} {k : Nat} (h : Wk bs s j c k) (h0 : f.getD s.toNat none = some 0) : ∀ m, k ≤ m → LeO ((rounds bs m f).getD j.toNat none) (some c) := by
  have mono : ∀ m (v : Nat), LeO ((rounds bs (m + 1) f).getD v none) ((rounds bs m f).getD v none) := fun m v => by rw [rounds_more]; exact round_le bs _ v
  induction h with
  | nil =>
    intro m hm
    induction m with
    | zero => rw [show rounds bs 0 f = f from rfl, h0]; exact .rfl'
    | succ m ih => exact (mono m _).trans (ih (by omega))
  | @snoc j c k b w hb e ih =>
    intro m hm
    obtain ⟨m', rfl⟩ : ∃ m', m = m' + 1 := ⟨m - 1, by omega⟩
    obtain ⟨c', e1, l1⟩ := ih m' (by omega) c rfl
    rw [rounds_more, e]
    refine (round_edge bs _ b ok hb (by rw [rounds_len, hl]) c' e1).trans fun d hd => ?_
    cases hd
    exact ⟨_, rfl, by omega⟩
/-- each length is one of a walk -/
theorem relax_sound {bs : List B} {s : Int} {f : List (Option Int)} {b : B} (hb : b ∈ bs) (b0 : 0 ≤ b.1 ∧ 0 ≤ b.2.1) (h : ∀ v : Nat, ∀ c, f.getD v none = some c → ∃ k, Wk bs s v c k) : ∀ v : Nat, ∀ c, (relax f b).getD v none = some c → ∃ k, Wk bs s v c k := by
  intro v c
  unfold relax
  cases hx : f.getD b.1.toNat none with
  | none => exact h v c
  | some x =>
    show (if better (x + b.2.2) (f.getD b.2.1.toNat none) = true then f.set b.2.1.toNat (some (x + b.2.2)) else f).getD v none = some c → _
    split
    · rw [getD_set]
      split
      · rename_i he
        intro e
        cases e
        obtain ⟨k, w⟩ := h _ _ hx
        rw [Int.toNat_of_nonneg b0.1] at w
        exact ⟨k + 1, w.snoc hb (by omega)⟩
      · exact h v c
    · exact h v c
theorem round_sound {bs : List B} {s : Int} : ∀ (cs : List B) (f : List (Option Int)), (∀ b ∈ cs, b ∈ bs ∧ 0 ≤ b.1 ∧ 0 ≤ b.2.1) → (∀ v : Nat, ∀ c, f.getD v none = some c → ∃ k, Wk bs s v c k) → ∀ v : Nat, ∀ c, (round cs f).getD v none = some c → ∃ k, Wk bs s v c k
  | [], f, _, h => h
  | b :: cs, f, hc, h => round_sound cs (relax f b) (fun b hb => hc b (List.mem_cons_of_mem _ hb)) (relax_sound (hc b List.mem_cons_self).1 (hc b List.mem_cons_self).2 h)
theorem rounds_sound {bs : List B} {s : Int} {f : List (Option Int)} (hc : ∀ b ∈ bs, 0 ≤ b.1 ∧ 0 ≤ b.2.1) (h : ∀ v : Nat, ∀ c, f.getD v none = some c → ∃ k, Wk bs s v c k) : ∀ m, ∀ v : Nat, ∀ c, (rounds bs m f).getD v none = some c → ∃ k, Wk bs s v c k
  | 0 => h
  | m + 1 => by rw [rounds_more]; exact round_sound bs _ (fun b hb => ⟨hb, hc b hb⟩) (rounds_sound hc h m)
theorem begin0_at {n : Nat} {s : Int} (v : Nat) : (begin0 n s).getD v none = if v < n ∧ (v : Int) = s then some 0 else none := by
  unfold begin0
  rw [List.getD_eq_getElem?_getD, List.getElem?_map]
  by_cases h : v < n
  · rw [List.getElem?_range h]
    by_cases h2 : (v : Int) = s <;> simp [h, h2]
  · rw [List.getElem?_eq_none (by simp; omega)]
    simp [h]
theorem lengths_sound {bs : List B} {n : Nat} {s : Int} (ok : ∀ b ∈ bs, Ok n b) (v : Nat) (c : Int) (h : (lengths bs n s).getD v none = some c) : ∃ k, Wk bs s v c k := by
  refine rounds_sound (fun b hb => ⟨(ok b hb).1, (ok b hb).2.2.1⟩) (fun v c => ?_) (n - 1) v c h
  rw [begin0_at]
  split
  · rename_i hv
    intro e
    cases e
    rw [hv.2]
    exact ⟨0, .nil _⟩
  · intro e; cases e
theorem lengths_best {bs : List B} {n : Nat} {s : Int} (ok : ∀ b ∈ bs, Ok n b) (fr : Free bs) (s0 : 0 ≤ s) (s1 : s < n) {j c : Int} {k : Nat} (h : Wk bs s j c k) : LeO ((lengths bs n s).getD j.toNat none) (some c) := by
  obtain ⟨c', k', l1, l2, w⟩ := Wk.short ok fr k s0 s1 h
  refine (rounds_walk ok (f := begin0 n s) (by unfold begin0; simp) w (by rw [begin0_at, if_pos ⟨by omega, by omega⟩]) (n - 1) (by omega)).trans fun d hd => ?_
  cases hd
  exact ⟨_, rfl, l1⟩
/-- what is a least sum is the length -/
theorem lengths_eq {bs : List B} {n : Nat} {s : Int} (ok : ∀ b ∈ bs, Ok n b) (fr : Free bs) (s0 : 0 ≤ s) (s1 : s < n) (v : Nat) (x : Option Int) (h1 : ∀ c, x = some c → ∃ k, Wk bs s v c k) (h2 : ∀ c k, Wk bs s v c k → LeO x (some c)) : x = (lengths bs n s).getD v none := by
  cases hy : (lengths bs n s).getD v none with
  | none =>
    cases x with
    | none => rfl
    | some c =>
      obtain ⟨k, w⟩ := h1 c rfl
      obtain ⟨b, e, _⟩ := lengths_best ok fr s0 s1 w c rfl
      rw [Int.toNat_natCast, hy] at e
      cases e
  | some d =>
    obtain ⟨k, w⟩ := lengths_sound ok v d hy
    obtain ⟨c, e, l⟩ := h2 d k w d rfl
    subst e
    obtain ⟨k', w'⟩ := h1 c rfl
    obtain ⟨b, e, l2⟩ := lengths_best ok fr s0 s1 w' c rfl
    rw [Int.toNat_natCast, hy] at e
    cases e
    rw [show c = d by omega]
/-! # A bound turned round -/
theorem turned_free {bs : List B} {n : Nat} {i j d : Int} (ok : ∀ b ∈ bs, Ok n b) (fr : Free bs) (i0 : 0 ≤ i) (i1 : i < n) (j0 : 0 ≤ j) (h : (lengths bs n i).getD j.toNat none = some d) : Free (bs ++ [(j, i, -d)]) := by
  have best : ∀ c k, Wk bs i j c k → d ≤ c := fun c k w => by
    obtain ⟨b, e, l⟩ := lengths_best ok fr i0 i1 w c rfl
    rw [h] at e
    cases e
    exact l
  have key : ∀ {u v c : Int} {k : Nat}, Wk (bs ++ [(j, i, -d)]) u v c k → (∃ m, Wk bs u v c m) ∨ ∃ a b m l, Wk bs u j a m ∧ Wk bs i v b l ∧ a - d + b ≤ c := by
    intro u v c k w
    induction w with
    | nil => exact .inl ⟨0, .nil _⟩
    | @snoc v c k b w hb e ih =>
      rcases List.mem_append.mp hb with hb' | hb'
      · rcases ih with ⟨m, g⟩ | ⟨x, y, m, l, g1, g2, g3⟩
        · exact .inl ⟨m + 1, g.snoc hb' e⟩
        · exact .inr ⟨x, y + b.2.2, m, l + 1, g1, g2.snoc hb' e, by omega⟩
      · obtain rfl : b = (j, i, -d) := by simpa using hb'
        dsimp only at *
        subst e
        rcases ih with ⟨m, g⟩ | ⟨x, y, m, l, g1, g2, g3⟩
        · exact .inr ⟨c, 0, m, 0, g, .nil _, by omega⟩
        · have := best _ _ g2
          exact .inr ⟨x, 0, m, 0, g1, .nil _, by omega⟩
  intro u c k w
  rcases key w with ⟨m, g⟩ | ⟨x, y, m, l, g1, g2, g3⟩
  · exact fr _ _ _ g
  · have := best _ _ (g2.app g1)
    omega
theorem turned_not {bs : List B} {n : Nat} {i j d : Int} (ok : ∀ b ∈ bs, Ok n b) (j0 : 0 ≤ j) (h : (lengths bs n i).getD j.toNat none = some d) : ¬ Free (bs ++ [(j, i, -d - 1)]) := fun fr => by
  obtain ⟨k, w⟩ := lengths_sound ok _ _ h
  rw [Int.toNat_of_nonneg j0] at w
  have := fr _ _ _ ((w.more fun b hb => List.mem_append_left _ hb).snoc (List.mem_append_right _ (List.mem_singleton.mpr rfl)) rfl)
  dsimp only at this
  omega
/-! # A ring -/
theorem ring_not {bs rs : List B} (h : Ring bs rs) : ¬ Free bs := fun fr => by
  obtain ⟨ne, mem, cyc, neg⟩ := h
  cases rs with
  | nil => exact ne rfl
  | cons r0 rs =>
    have key : ∀ k, k < (r0 :: rs).length → ∀ r, (r0 :: rs)[k]? = some r → Wk bs r0.1 r.2.1 (((r0 :: rs).take (k + 1)).map (·.2.2)).sum (k + 1) := by
      intro k
      induction k with
      | zero =>
        intro _ r hr
        cases hr
        have := Wk.one (mem r0 List.mem_cons_self)
        simpa using this
      | succ k ih =>
        intro hk r hr
        obtain ⟨a, b, e1, e2, e3⟩ := cyc k (by omega)
        rw [Nat.mod_eq_of_lt hk, hr] at e2
        cases e2
        have w := ih (by omega) a e1
        rw [e3] at w
        have := w.snoc (mem r (List.mem_of_getElem? hr)) rfl
        rw [take_more hr, List.map_append, List.sum_append]
        simpa using this
    obtain ⟨a, b, e1, e2, e3⟩ := cyc rs.length (by simp)
    rw [show (rs.length + 1) % (r0 :: rs).length = 0 by simp] at e2
    cases e2
    have w := key rs.length (by simp) a e1
    rw [e3, List.take_of_length_le (by simp)] at w
    have := fr _ _ _ w
    omega
/-! # The rounds that lower -/
def ll (s : Lo) (v : Nat) : Int := s.len.getD v 0
def pr (s : Lo) (v : Nat) : Option (V × B) := s.last.getD v none
abbrev src (w : V × B) : Nat := w.2.1.toNat
abbrev dst (w : V × B) : Nat := w.2.2.1.toNat
structure Iv (ws : List (V × B)) (n k : Nat) (s : Lo) (tm r : Nat → Nat) (T : Nat) (pre : List (V × B)) : Prop where
  l1 : s.len.length = n
  l2 : s.last.length = n
  tmT : ∀ x, tm x ≤ T
  prd : ∀ v w, pr s v = some w → w ∈ ws ∧ dst w = v ∧ (ll s (src w) + w.2.2.2 < ll s v ∨ ll s (src w) + w.2.2.2 = ll s v ∧ tm (src w) < tm v) ∧ r v ≤ r (src w) + 1
  r0 : ∀ v, pr s v = none → r v = 0
  rk : ∀ v, r v ≤ k
  weak : ∀ w ∈ ws, ll s (dst w) ≤ ll s (src w) + w.2.2.2 ∨ k ≤ r (src w) + 1
  strong : ∀ w ∈ pre, ll s (dst w) ≤ ll s (src w) + w.2.2.2 ∨ k ≤ r (src w)
  lowr : ∀ z, s.low = some z → 0 ≤ z ∧ z < n ∧ r z.toNat = k
  lown : 0 < k → s.low = none → ∀ w ∈ pre, ll s (dst w) ≤ ll s (src w) + w.2.2.2
theorem Iv.step {ws : List (V × B)} {n k : Nat} {s : Lo} {tm r : Nat → Nat} {T : Nat} {pre : List (V × B)} (I : Iv ws n k s tm r T pre) {w : V × B} (hw : w ∈ ws) (ok : Ok n w.2) :
    ∃ tm' r' T', Iv ws n k (lower s w) tm' r' T' (pre ++ [w]) := by
  obtain ⟨i0, i1, j0, j1, ij⟩ := ok
  by_cases hc : ll s (src w) + w.2.2.2 < ll s (dst w)
  · have e : lower s w = ⟨s.len.set (dst w) (ll s (src w) + w.2.2.2), s.last.set (dst w) (some w), some w.2.2.1⟩ := if_pos hc
    have hl : ∀ v, ll (lower s w) v = if v = dst w then ll s (src w) + w.2.2.2 else ll s v := fun v => by
      rw [e]
      show (s.len.set (dst w) _).getD v 0 = _
      rw [getD_set]
      by_cases h : v = dst w
      · rw [if_pos ⟨h.symm, by rw [I.l1]; show w.2.2.1.toNat < n; omega⟩, if_pos h]
      · rw [if_neg fun z => h z.1.symm, if_neg h]; rfl
    have hp : ∀ v, pr (lower s w) v = if v = dst w then some w else pr s v := fun v => by
      rw [e]
      show (s.last.set (dst w) _).getD v none = _
      rw [getD_set]
      by_cases h : v = dst w
      · rw [if_pos ⟨h.symm, by rw [I.l2]; show w.2.2.1.toNat < n; omega⟩, if_pos h]
      · rw [if_neg fun z => h z.1.symm, if_neg h]; rfl
    have sd : src w ≠ dst w := by show w.2.1.toNat ≠ w.2.2.1.toNat; omega
    have hs : ll (lower s w) (src w) = ll s (src w) := by rw [hl, if_neg sd]
    have le : ∀ v, ll (lower s w) v ≤ ll s v := fun v => by
      rw [hl]; split
      · rename_i h; rw [h]; omega
      · omega
    refine ⟨fun v => if v = dst w then T + 1 else tm v, fun v => if v = dst w then k else r v, T + 1, ⟨?_, ?_, ?_, ?_, ?_, ?_, ?_, ?_, ?_, ?_⟩⟩
    · rw [(lower_len s w).1, I.l1]
    · rw [(lower_len s w).2, I.l2]
    · intro x; show (if x = dst w then T + 1 else tm x) ≤ T + 1; split
      · omega
      · have := I.tmT x; omega
    · intro v u hu
      rw [hp] at hu
      by_cases hv : v = dst w
      · rw [if_pos hv] at hu
        cases hu
        subst hv
        refine ⟨hw, rfl, .inr ⟨by rw [hs, hl, if_pos rfl], ?_⟩, ?_⟩
        · simp only [if_neg sd, if_true]
          have := I.tmT (src w); omega
        · simp only [if_neg sd, if_true]
          rcases I.weak w hw with h | h
          · omega
          · exact h
      · rw [if_neg hv] at hu
        obtain ⟨a, b, c, d⟩ := I.prd v u hu
        refine ⟨a, b, ?_, ?_⟩
        · by_cases hu2 : src u = dst w
          · left
            rw [hl v, if_neg hv, hl, if_pos hu2]
            rw [hu2] at c
            rcases c with c | c <;> omega
          · rw [hl v, if_neg hv, hl, if_neg hu2]
            simp only [if_neg hv, if_neg hu2]
            exact c
        · simp only [if_neg hv]
          split
          · have := I.rk v; omega
          · exact d
    · intro v hv
      rw [hp] at hv
      split at hv
      · cases hv
      · rename_i h
        simp only [if_neg h]
        exact I.r0 v hv
    · intro v; show (if v = dst w then k else r v) ≤ k; split
      · omega
      · exact I.rk v
    · intro u hu
      by_cases hu2 : src u = dst w
      · right; simp only [if_pos hu2]; omega
      · simp only [if_neg hu2]
        rcases I.weak u hu with h | h
        · left
          rw [hl (src u), if_neg hu2]
          exact Int.le_trans (le _) h
        · exact .inr h
    · intro u hu
      by_cases hu2 : src u = dst w
      · right; simp only [if_pos hu2]; omega
      · simp only [if_neg hu2]
        rcases List.mem_append.mp hu with hu | hu
        · rcases I.strong u hu with h | h
          · left
            rw [hl (src u), if_neg hu2]
            exact Int.le_trans (le _) h
          · exact .inr h
        · obtain rfl : u = w := by simpa using hu
          left
          rw [hs, hl, if_pos rfl]
          omega
    · intro z hz
      rw [e] at hz
      cases hz
      refine ⟨j0, j1, ?_⟩
      exact if_pos rfl
    · intro _ hz
      rw [e] at hz
      cases hz
  · have e : lower s w = s := if_neg hc
    refine ⟨tm, r, T, ?_⟩
    rw [e]
    refine { I with strong := fun u hu => ?_, lown := fun hk hz u hu => ?_ }
    · rcases List.mem_append.mp hu with hu | hu
      · exact I.strong u hu
      · obtain rfl : u = w := by simpa using hu
        left; omega
    · rcases List.mem_append.mp hu with hu | hu
      · exact I.lown hk hz u hu
      · obtain rfl : u = w := by simpa using hu
        omega
theorem Iv.fold {ws : List (V × B)} {n k : Nat} (ok : ∀ w ∈ ws, Ok n w.2) : ∀ (us : List (V × B)) {s : Lo} {tm r : Nat → Nat} {T : Nat} {pre : List (V × B)}, (∀ w ∈ us, w ∈ ws) → Iv ws n k s tm r T pre → ∃ tm' r' T', Iv ws n k (us.foldl lower s) tm' r' T' (pre ++ us)
  | [], s, tm, r, T, pre, _, I => ⟨tm, r, T, by rw [List.append_nil]; exact I⟩
  | u :: us, s, tm, r, T, pre, h, I => by
    obtain ⟨tm', r', T', I'⟩ := I.step (h u List.mem_cons_self) (ok u (h u List.mem_cons_self))
    obtain ⟨a, b, c, J⟩ := Iv.fold ok us (fun w hw => h w (List.mem_cons_of_mem _ hw)) I'
    rw [List.append_assoc] at J
    exact ⟨a, b, c, J⟩
theorem Iv.round {ws : List (V × B)} {n k : Nat} (ok : ∀ w ∈ ws, Ok n w.2) {s : Lo} {tm r : Nat → Nat} {T : Nat} (I : Iv ws n k s tm r T ws) : ∃ tm' r' T', Iv ws n (k + 1) (lowRound ws s) tm' r' T' ws := by
  have J : Iv ws n (k + 1) { s with low := none } tm r T [] := { l1 := I.l1, l2 := I.l2, tmT := I.tmT, prd := I.prd, r0 := I.r0, rk := fun v => by have := I.rk v; omega, weak := fun w hw => (I.strong w hw).imp id (by omega), strong := (fun w hw => nomatch hw), lowr := (fun z hz => nomatch hz), lown := (fun _ _ w hw => nomatch hw) }
  obtain ⟨a, b, c, h⟩ := Iv.fold ok ws (fun w hw => hw) J
  exact ⟨a, b, c, h⟩
theorem Iv.iter {ws : List (V × B)} {n : Nat} (ok : ∀ w ∈ ws, Ok n w.2) : ∀ k, ∃ tm r T, Iv ws n k (lowIter ws k (low0 n)) tm r T ws
  | 0 => ⟨fun _ => 0, fun _ => 0, 0, {
      l1 := (lowIter_len ws n 0).1, l2 := (lowIter_len ws n 0).2, tmT := fun _ => Nat.le_refl 0,
      prd := fun v w h => by
        have : pr (lowIter ws 0 (low0 n)) v = none := by
          show (List.replicate n none).getD v none = none
          rw [List.getD_eq_getElem?_getD, List.getElem?_replicate]; split <;> rfl
        (rw [this] at h; exact nomatch h),
      r0 := fun _ _ => rfl, rk := fun _ => Nat.le_refl 0, weak := fun _ _ => .inr (by omega), strong := fun _ _ => .inr (by omega),
      lowr := (fun z hz => nomatch hz), lown := fun h => absurd h (by omega) }⟩
  | k + 1 => by
    obtain ⟨a, b, c, I⟩ := Iv.iter ok k
    exact I.round ok
/-- how the rounds end -/
theorem lows_end {ws : List (V × B)} {n : Nat} (n0 : 1 ≤ n) (ok : ∀ w ∈ ws, Ok n w.2) : (∃ k tm r T, 0 < k ∧ Iv ws n k (lows ws n) tm r T ws ∧ (lows ws n).low = none) ∨ ∃ tm r T z, Iv ws n n (lows ws n) tm r T ws ∧ (lows ws n).low = some z := by
  by_cases h : ∃ i, i < n ∧ (lowIter ws (i + 1) (low0 n)).low = none
  · -- the least such round
    have : ∃ i, i < n ∧ (lowIter ws (i + 1) (low0 n)).low = none ∧ ∀ j, j < i → (lowIter ws (j + 1) (low0 n)).low ≠ none := by
      obtain ⟨i, hi⟩ := h
      induction i using Nat.strongRecOn with
      | ind i ih =>
        by_cases hj : ∃ j, j < i ∧ (lowIter ws (j + 1) (low0 n)).low = none
        · obtain ⟨j, hj, e⟩ := hj
          exact ih j hj ⟨by omega, e⟩
        · exact ⟨i, hi.1, hi.2, fun j hj' e => hj ⟨j, hj', e⟩⟩
    obtain ⟨i, hi, e, nl⟩ := this
    have fin : lows ws n = lowIter ws (i + 1) (low0 n) := lowRounds_stop ws n i (low0 n) hi nl e
    obtain ⟨a, b, c, I⟩ := Iv.iter ok (i + 1)
    rw [← fin] at I e
    exact .inl ⟨i + 1, a, b, c, by omega, I, e⟩
  · have fin : lows ws n = lowIter ws n (low0 n) := lowRounds_iter ws n (low0 n) fun j hj e => h ⟨j, hj, e⟩
    obtain ⟨a, b, c, I⟩ := Iv.iter ok n
    obtain ⟨m, rfl⟩ : ∃ m, n = m + 1 := ⟨n - 1, by omega⟩
    cases hz : (lowIter ws (m + 1) (low0 (m + 1))).low with
    | none => exact absurd ⟨m, by omega, hz⟩ h
    | some z =>
      rw [← fin] at I hz
      exact .inr ⟨a, b, c, z, I, hz⟩
theorem low_free {ws : List (V × B)} {n : Nat} (n0 : 1 ≤ n) (ok : ∀ w ∈ ws, Ok n w.2) (h : (lows ws n).low = none) : Free (ws.map (·.2)) := by
  rcases lows_end n0 ok with ⟨k, tm, r, T, hk, I, e⟩ | ⟨tm, r, T, z, I, e⟩
  · refine free_of_pot (p := fun i => ll (lows ws n) i.toNat) fun b hb => ?_
    obtain ⟨w, hw, rfl⟩ := List.mem_map.mp hb
    exact I.lown hk e w hw
  · rw [h] at e; cases e
/-! # The ring -/
/-- one step back -/
def back (s : Lo) (v : Nat) : Nat := match pr s v with
  | some w => src w
  | none => v
def backs (s : Lo) (z : Nat) : Nat → Nat
  | 0 => z
  | m + 1 => back s (backs s z m)
theorem backs_add (s : Lo) (z : Nat) (a : Nat) : ∀ m, backs s z (a + m) = backs s (backs s z a) m
  | 0 => rfl
  | m + 1 => by show back s (backs s z (a + m)) = _; rw [backs_add s z a m]; rfl
theorem backs_shift {s : Lo} {z i j : Nat} (h : backs s z i = backs s z j) (t : Nat) : backs s z (i + t) = backs s z (j + t) := by
  rw [backs_add, backs_add, h]
/-- where a ring lies -/
theorem low_ring {ws : List (V × B)} {n : Nat} (n0 : 1 ≤ n) (ok : ∀ w ∈ ws, Ok n w.2) {z : Int} (h : (lows ws n).low = some z) :
    0 ≤ z ∧ z < n ∧ (∀ m, ∃ w, pr (lows ws n) (backs (lows ws n) z.toNat m) = some w) ∧ ∃ q, 0 < q ∧ q ≤ n ∧ backs (lows ws n) z.toNat (n + q) = backs (lows ws n) z.toNat n ∧ ∀ m, 0 < m → m < q → backs (lows ws n) z.toNat (n + m) ≠ backs (lows ws n) z.toNat n := by
  rcases lows_end n0 ok with ⟨k, tm, r, T, hk, I, e⟩ | ⟨tm, r, T, z', I, e⟩
  · rw [h] at e; cases e
  rw [h] at e; cases e
  obtain ⟨z0, z1, rz⟩ := I.lowr z h
  -- the first n steps
  have first : ∀ m, m ≤ n → n ≤ r (backs (lows ws n) z.toNat m) + m ∧ backs (lows ws n) z.toNat m < n := by
    intro m
    induction m with
    | zero => intro _; exact ⟨by show n ≤ r z.toNat + 0; omega, by show z.toNat < n; omega⟩
    | succ m ih =>
      intro hm
      obtain ⟨h1, h2⟩ := ih (by omega)
      cases hp : pr (lows ws n) (backs (lows ws n) z.toNat m) with
      | none => have := I.r0 _ hp; omega
      | some w =>
        have e : backs (lows ws n) z.toNat (m + 1) = src w := by
          show back (lows ws n) _ = _
          unfold back; rw [hp]
        obtain ⟨a, b, c, d⟩ := I.prd _ _ hp
        have := ok w a
        rw [e]
        exact ⟨by omega, by have := this.2.1; have := (ok w a).1; show w.2.1.toNat < n; omega⟩
  have dfirst : ∀ m, m < n → ∃ w, pr (lows ws n) (backs (lows ws n) z.toNat m) = some w := fun m hm => by
    obtain ⟨h1, h2⟩ := first m (by omega)
    cases hp : pr (lows ws n) (backs (lows ws n) z.toNat m) with
    | none => have := I.r0 _ hp; omega
    | some w => exact ⟨w, rfl⟩
  obtain ⟨i, j, hij, hj, eij⟩ := pigeon n (backs (lows ws n) z.toNat) fun m hm => (first m hm).2
  have per : ∀ t, backs (lows ws n) z.toNat (i + t) = backs (lows ws n) z.toNat (j + t) := backs_shift eij
  refine ⟨z0, z1, ?_, ?_⟩
  · intro m
    induction m using Nat.strongRecOn with
    | ind m ih =>
      by_cases hm : m < n
      · exact dfirst m hm
      · have := per (m - j)
        rw [show j + (m - j) = m by omega] at this
        rw [← this]
        exact ih _ (by omega)
  · have ex : ∃ q, 0 < q ∧ q ≤ n ∧ backs (lows ws n) z.toNat (n + q) = backs (lows ws n) z.toNat n := ⟨j - i, by omega, by omega, by
      have := per (n - i)
      rw [show i + (n - i) = n by omega, show j + (n - i) = n + (j - i) by omega] at this
      exact this.symm⟩
    obtain ⟨q, hq⟩ := ex
    induction q using Nat.strongRecOn with
    | ind q ih =>
      by_cases hm : ∃ m, 0 < m ∧ m < q ∧ backs (lows ws n) z.toNat (n + m) = backs (lows ws n) z.toNat n
      · obtain ⟨m, m0, m1, e⟩ := hm
        exact ih m m1 ⟨m0, by omega, e⟩
      · exact ⟨q, hq.1, hq.2.1, hq.2.2, fun m m0 m1 e => hm ⟨m, m0, m1, e⟩⟩
/-- the ways of a ring, in the order of the steps back -/
def wayAt (s : Lo) (v : Nat) : V × B := (pr s v).getD (.non, 0, 0, 0)
def backWays (s : Lo) (p : Nat) (q : Nat) : List (V × B) := (List.range q).map fun m => wayAt s (backs s p m)
theorem ring_of_back {ws : List (V × B)} {n : Nat} (n0 : 1 ≤ n) (ok : ∀ w ∈ ws, Ok n w.2) {p q : Nat} (hd : ∀ m, ∃ w, pr (lows ws n) (backs (lows ws n) p m) = some w) (q0 : 0 < q) (hq : backs (lows ws n) p q = p) :
    Ring (ws.map (·.2)) ((backWays (lows ws n) p q).reverse.map (·.2)) := by
  obtain ⟨k, tm, r, T, I⟩ : ∃ k tm r T, Iv ws n k (lows ws n) tm r T ws := by
    rcases lows_end n0 ok with ⟨k, tm, r, T, hk, I, e⟩ | ⟨tm, r, T, z', I, e⟩
    · exact ⟨k, tm, r, T, I⟩
    · exact ⟨n, tm, r, T, I⟩
  have hw : ∀ m, pr (lows ws n) (backs (lows ws n) p m) = some (wayAt (lows ws n) (backs (lows ws n) p m)) := fun m => by
    obtain ⟨w, e⟩ := hd m
    unfold wayAt
    rw [e]; rfl
  have hb : ∀ m, src (wayAt (lows ws n) (backs (lows ws n) p m)) = backs (lows ws n) p (m + 1) := fun m => by
    show _ = back (lows ws n) (backs (lows ws n) p m)
    unfold back
    rw [hw m]
  have ha := fun m => I.prd _ _ (hw m)
  have hlen : ((backWays (lows ws n) p q).reverse.map (·.2)).length = q := by simp [backWays]
  have hat : ∀ m, m < q → ((backWays (lows ws n) p q).reverse.map (·.2))[m]? = some (wayAt (lows ws n) (backs (lows ws n) p (q - 1 - m))).2 := fun m hm => by
    rw [List.getElem?_map, List.getElem?_reverse (by simpa [backWays] using hm)]
    unfold backWays
    rw [List.getElem?_map, List.length_map, List.length_range, List.getElem?_range (by omega)]
    rfl
  have oks := fun m => ok _ (ha m).1
  have ends : ∀ a b, src (wayAt (lows ws n) (backs (lows ws n) p a)) = dst (wayAt (lows ws n) (backs (lows ws n) p b)) → (wayAt (lows ws n) (backs (lows ws n) p a)).2.1 = (wayAt (lows ws n) (backs (lows ws n) p b)).2.2.1 := fun a b h => by
    have := oks a
    have := oks b
    obtain ⟨_, _, _, _, _⟩ := oks a
    obtain ⟨_, _, _, _, _⟩ := oks b
    replace h : (wayAt (lows ws n) (backs (lows ws n) p a)).2.1.toNat = (wayAt (lows ws n) (backs (lows ws n) p b)).2.2.1.toNat := h
    omega
  refine ⟨fun e => by rw [e] at hlen; simp at hlen; omega, ?_, ?_, ?_⟩
  · intro b hb2
    obtain ⟨w, hw2, rfl⟩ := List.mem_map.mp hb2
    rw [List.mem_reverse] at hw2
    obtain ⟨m, _, rfl⟩ := List.mem_map.mp hw2
    exact List.mem_map.mpr ⟨_, (ha m).1, rfl⟩
  · intro m hm
    rw [hlen] at hm ⊢
    by_cases hm2 : m + 1 < q
    · refine ⟨_, _, hat m hm, by rw [Nat.mod_eq_of_lt hm2]; exact hat (m + 1) hm2, ?_⟩
      refine (ends _ _ ?_).symm
      rw [hb, (ha _).2.1]
      congr 1
      omega
    · have : m + 1 = q := by omega
      refine ⟨_, _, hat m hm, by rw [this, Nat.mod_self]; exact hat 0 q0, ?_⟩
      refine (ends _ _ ?_).symm
      rw [hb, (ha _).2.1, show q - 1 - 0 + 1 = q by omega, show q - 1 - m = 0 by omega, hq]
      rfl
  · have key : ∀ m, ll (lows ws n) (backs (lows ws n) p m) + ((backWays (lows ws n) p m).map (·.2.2.2)).sum < ll (lows ws n) p ∨ ll (lows ws n) (backs (lows ws n) p m) + ((backWays (lows ws n) p m).map (·.2.2.2)).sum = ll (lows ws n) p ∧ tm (backs (lows ws n) p m) + m ≤ tm p := by
      intro m
      induction m with
      | zero => right; exact ⟨by simp [backWays, backs], by simp [backs]⟩
      | succ m ih =>
        obtain ⟨_, _, h, _⟩ := ha m
        rw [hb] at h
        have e : ((backWays (lows ws n) p (m + 1)).map (·.2.2.2)).sum = ((backWays (lows ws n) p m).map (·.2.2.2)).sum + (wayAt (lows ws n) (backs (lows ws n) p m)).2.2.2 := by
          unfold backWays
          rw [List.range_succ, List.map_append, List.map_append, List.sum_append]
          simp
        rw [e]
        rcases h with h | h <;> rcases ih with ih | ih <;> omega
    have e : (((backWays (lows ws n) p q).reverse.map (·.2)).map (·.2.2)).sum = ((backWays (lows ws n) p q).map (·.2.2.2)).sum := by
      rw [List.map_map, List.map_reverse]
      show (List.map (fun w : V × B => w.2.2.2) (backWays (lows ws n) p q)).reverse.sum = _
      generalize List.map (fun w : V × B => w.2.2.2) (backWays (lows ws n) p q) = l
      induction l with
      | nil => rfl
      | cons x l ih => rw [List.reverse_cons, List.sum_append, ih]; simp; omega
    rw [e]
    have := key q
    rw [hq] at this
    omega
/-! # The table of the least sums -/
abbrev Tb := List (List (Option Int))
def tat (M : Tb) (i j : Nat) : Option Int := (M.getD i []).getD j none
def upd (M : Tb) (i j : Nat) (v : Option Int) : Tb := M.set i ((M.getD i []).set j v)
def Dim (n : Nat) (M : Tb) : Prop := M.length = n ∧ ∀ i, i < n → (M.getD i []).length = n
theorem upd_dim {n : Nat} {M : Tb} (h : Dim n M) (i j : Nat) (v : Option Int) : Dim n (upd M i j v) := by
  refine ⟨by unfold upd; rw [List.length_set, h.1], fun a ha => ?_⟩
  unfold upd
  rw [getD_set]
  split
  · rename_i e
    rw [List.length_set, e.1]
    exact h.2 a ha
  · exact h.2 a ha
theorem tat_upd {n : Nat} {M : Tb} (h : Dim n M) {i j : Nat} (hi : i < n) (hj : j < n) (v : Option Int) (a b : Nat) : tat (upd M i j v) a b = if a = i ∧ b = j then v else tat M a b := by
  unfold tat upd
  rw [getD_set]
  by_cases ha : i = a
  · subst ha
    rw [if_pos ⟨rfl, by rw [h.1]; exact hi⟩, getD_set]
    by_cases hb : j = b
    · subst hb
      rw [if_pos ⟨rfl, by rw [h.2 i hi]; exact hj⟩, if_pos ⟨rfl, rfl⟩]
    · rw [if_neg fun z => hb z.1, if_neg fun z => hb z.2.symm]
  · rw [if_neg fun z => ha z.1, if_neg fun z => ha z.1.symm]
def fw0 (n : Nat) : Tb := (List.range n).map fun (i : Nat) => (List.range n).map fun (j : Nat) => if (i : Int) = (j : Int) then some 0 else none
def fwB (M : Tb) (b : B) : Tb := if better b.2.2 (tat M b.1.toNat b.2.1.toNat) = true then upd M b.1.toNat b.2.1.toNat (some b.2.2) else M
def fwJ (k i : Nat) (M : Tb) (j : Nat) : Tb :=
  match tat M i k, tat M k j with
  | some a, some b => if better (a + b) (tat M i j) = true then upd M i j (some (a + b)) else M
  | _, _ => M
def fwI (n k : Nat) (M : Tb) (i : Nat) : Tb := match tat M i k with
  | none => M
  | some _ => (List.range n).foldl (fwJ k i) M
def fwK (n : Nat) (M : Tb) (k : Nat) : Tb := (List.range n).foldl (fwI n k) M
def fw (n : Nat) (bs : List B) : Tb := (List.range n).foldl (fwK n) (bs.foldl fwB (fw0 n))
def Neg (n : Nat) (M : Tb) : Prop := ∃ i c, i < n ∧ tat M i i = some c ∧ c < 0
theorem foldl_range {σ : Type _} (P : Nat → σ → Prop) (f : σ → Nat → σ) (n : Nat) {s : σ} (h0 : P 0 s) (hs : ∀ i s, i < n → P i s → P (i + 1) (f s i)) : P n ((List.range n).foldl f s) := by
  have key : ∀ m, m ≤ n → P m ((List.range m).foldl f s) := by
    intro m
    induction m with
    | zero => intro _; exact h0
    | succ m ih =>
      intro hm
      rw [List.range_succ, List.foldl_append]
      exact hs m _ (by omega) (ih (by omega))
  exact key n (Nat.le_refl n)
def Snd (n : Nat) (bs : List B) (M : Tb) : Prop := ∀ i j c, i < n → j < n → tat M i j = some c → ∃ m, Wk bs (i : Int) (j : Int) c m
theorem snd_upd {n : Nat} {bs : List B} {M : Tb} (hd : Dim n M) (hs : Snd n bs M) {i j : Nat} (hi : i < n) (hj : j < n) {c : Int} (h : ∃ m, Wk bs (i : Int) (j : Int) c m) : Snd n bs (upd M i j (some c)) := fun a b d ha hb e => by
  rw [tat_upd hd hi hj] at e
  split at e
  · rename_i z
    cases e
    rw [z.1, z.2]
    exact h
  · exact hs a b d ha hb e
theorem le_upd {n : Nat} {M : Tb} (hd : Dim n M) {i j : Nat} (hi : i < n) (hj : j < n) {c : Int} (h : better c (tat M i j) = true) (a b : Nat) : LeO (tat (upd M i j (some c)) a b) (tat M a b) := by
  rw [tat_upd hd hi hj]
  split
  · rename_i z
    rw [z.1, z.2]
    exact better_le h
  · exact .rfl'
/-! the table at the beginning -/
theorem fw0_dim (n : Nat) : Dim n (fw0 n) := by
  refine ⟨by simp [fw0], fun i hi => ?_⟩
  unfold fw0
  rw [List.getD_eq_getElem?_getD, List.getElem?_map, List.getElem?_range hi]
  simp
theorem fw0_at {n i j : Nat} (hi : i < n) (hj : j < n) : tat (fw0 n) i j = if i = j then some 0 else none := by
  unfold tat fw0
  rw [List.getD_eq_getElem?_getD (l := List.map _ _), List.getElem?_map, List.getElem?_range hi]
  show ((List.range n).map fun (j : Nat) => if (i : Int) = (j : Int) then some 0 else none).getD j none = _
  rw [List.getD_eq_getElem?_getD, List.getElem?_map, List.getElem?_range hj]
  show (if (i : Int) = (j : Int) then some (0 : Int) else none) = _
  by_cases h : i = j
  · rw [if_pos (by omega), if_pos h]
  · rw [if_neg (by omega), if_neg h]
structure Fst (n : Nat) (bs cs : List B) (M : Tb) : Prop where
  dim : Dim n M
  snd : Snd n bs M
  dia : ∀ i, i < n → LeO (tat M i i) (some 0)
  edg : ∀ b ∈ cs, LeO (tat M b.1.toNat b.2.1.toNat) (some b.2.2)
theorem fst_step {n : Nat} {bs cs : List B} {M : Tb} {b : B} (h : Fst n bs cs M) (hb : b ∈ bs) (ok : Ok n b) : Fst n bs (cs ++ [b]) (fwB M b) := by
  obtain ⟨i0, i1, j0, j1, ij⟩ := ok
  unfold fwB
  split
  · rename_i c
    have le := le_upd h.dim (show b.1.toNat < n by omega) (show b.2.1.toNat < n by omega) c
    refine ⟨upd_dim h.dim _ _ _, snd_upd h.dim h.snd (by omega) (by omega) ⟨1, ?_⟩, fun i hi => (le i i).trans (h.dia i hi), fun a ha => ?_⟩
    · rw [Int.toNat_of_nonneg i0, Int.toNat_of_nonneg j0]
      exact Wk.one hb
    · rcases List.mem_append.mp ha with ha | ha
      · exact (le _ _).trans (h.edg a ha)
      · obtain rfl : a = b := by simpa using ha
        rw [tat_upd h.dim (by omega) (by omega), if_pos ⟨rfl, rfl⟩]
        exact .rfl'
  · rename_i c
    refine ⟨h.dim, h.snd, h.dia, fun a ha => ?_⟩
    rcases List.mem_append.mp ha with ha | ha
    · exact h.edg a ha
    · obtain rfl : a = b := by simpa using ha
      exact not_better c
theorem fst_all {n : Nat} {bs : List B} (ok : ∀ b ∈ bs, Ok n b) : ∀ (cs ds : List B) {M : Tb}, (∀ b ∈ cs, b ∈ bs) → Fst n bs ds M → Fst n bs (ds ++ cs) (cs.foldl fwB M)
  | [], ds, M, _, h => by rw [List.append_nil]; exact h
  | c :: cs, ds, M, hc, h => by
    have := fst_all ok cs (ds ++ [c]) (fun b hb => hc b (List.mem_cons_of_mem _ hb)) (fst_step h (hc c List.mem_cons_self) (ok c (hc c List.mem_cons_self)))
    rw [List.append_assoc] at this
    exact this
theorem fst0 {n : Nat} {bs : List B} (ok : ∀ b ∈ bs, Ok n b) : Fst n bs bs (bs.foldl fwB (fw0 n)) := by
  have := fst_all ok bs [] (M := fw0 n) (fun b hb => hb) ⟨fw0_dim n, fun i j c hi hj e => by
    rw [fw0_at hi hj] at e
    split at e
    · rename_i z
      cases e
      subst z
      exact ⟨0, .nil _⟩
    · exact (nomatch e), fun i hi => by rw [fw0_at hi hi, if_pos rfl]; exact .rfl', fun b hb => nomatch hb⟩
  simpa using this
/-! a turn by one point -/
structure Ph (n : Nat) (bs : List B) (k : Nat) (F G : Tb) (P : Nat → Nat → Prop) : Prop where
  dim : Dim n G
  snd : Snd n bs G
  le : ∀ i j, LeO (tat G i j) (tat F i j)
  ex : tat F k k = some 0 → ∀ i j, i < n → j < n → tat G i j = tat F i j ∨ ∃ a b, tat F i k = some a ∧ tat F k j = some b ∧ tat G i j = some (a + b)
  dn : tat F k k = some 0 → ∀ i j, P i j → ∀ a b, tat F i k = some a → tat F k j = some b → LeO (tat G i j) (some (a + b))
theorem Ph.row {n : Nat} {bs : List B} {k : Nat} {F G : Tb} {P : Nat → Nat → Prop} (h : Ph n bs k F G P) (hk : k < n) (h0 : tat F k k = some 0) {i : Nat} (hi : i < n) : tat G i k = tat F i k := by
  rcases h.ex h0 i k hi hk with e | ⟨a, b, e1, e2, e3⟩
  · exact e
  · rw [h0] at e2
    cases e2
    rw [e3, e1, Int.add_zero]
theorem Ph.col {n : Nat} {bs : List B} {k : Nat} {F G : Tb} {P : Nat → Nat → Prop} (h : Ph n bs k F G P) (hk : k < n) (h0 : tat F k k = some 0) {j : Nat} (hj : j < n) : tat G k j = tat F k j := by
  rcases h.ex h0 k j hk hj with e | ⟨a, b, e1, e2, e3⟩
  · exact e
  · rw [h0] at e1
    cases e1
    rw [e3, e2, Int.zero_add]
theorem Ph.imp {n : Nat} {bs : List B} {k : Nat} {F G : Tb} {P P' : Nat → Nat → Prop} (h : Ph n bs k F G P) (g : ∀ i j, P' i j → P i j) : Ph n bs k F G P' := { h with dn := fun h0 i j p => h.dn h0 i j (g i j p) }
theorem Ph.stepJ {n : Nat} {bs : List B} {k : Nat} {F G : Tb} {P : Nat → Nat → Prop} (h : Ph n bs k F G P) (hk : k < n) {i j : Nat} (hi : i < n) (hj : j < n) : Ph n bs k F (fwJ k i G j) fun a b => P a b ∨ (a = i ∧ b = j) := by
  have same : (∀ a b, tat F i k = some a → tat F k j = some b → LeO (tat G i j) (some (a + b))) → Ph n bs k F G fun a b => P a b ∨ (a = i ∧ b = j) := fun z =>
    ⟨h.dim, h.snd, h.le, h.ex, fun h0 a b p => p.elim (h.dn h0 a b) fun q => by rw [q.1, q.2]; exact z⟩
  unfold fwJ
  cases h1 : tat G i k with
  | none =>
    refine same fun a b e1 _ => ?_
    obtain ⟨x, e, _⟩ := h.le i k a e1
    rw [h1] at e; cases e
  | some a =>
    cases h2 : tat G k j with
    | none =>
      refine same fun a b _ e1 => ?_
      obtain ⟨x, e, _⟩ := h.le k j b e1
      rw [h2] at e; cases e
    | some b =>
      have ab : ∀ x y, tat F i k = some x → tat F k j = some y → a + b ≤ x + y := fun x y e1 e2 => by
        obtain ⟨x', g1, l1⟩ := h.le i k x e1
        obtain ⟨y', g2, l2⟩ := h.le k j y e2
        rw [h1] at g1
        rw [h2] at g2
        cases g1
        cases g2
        omega
      show Ph n bs k F (if better (a + b) (tat G i j) = true then upd G i j (some (a + b)) else G) _
      split
      · rename_i c
        have le := le_upd h.dim hi hj c
        obtain ⟨m1, w1⟩ := h.snd i k a hi hk h1
        obtain ⟨m2, w2⟩ := h.snd k j b hk hj h2
        refine ⟨upd_dim h.dim _ _ _, snd_upd h.dim h.snd hi hj ⟨_, w1.app w2⟩, fun x y => (le x y).trans (h.le x y), fun h0 x y hx hy => ?_, fun h0 x y p u v e1 e2 => ?_⟩
        · rw [tat_upd h.dim hi hj]
          split
          · rename_i z
            obtain ⟨rfl, rfl⟩ := z
            right
            exact ⟨a, b, by rw [← h.row hk h0 hx, h1], by rw [← h.col hk h0 hy, h2], rfl⟩
          · exact h.ex h0 x y hx hy
        · rcases p with p | ⟨rfl, rfl⟩
          · exact (le x y).trans (h.dn h0 x y p u v e1 e2)
          · rw [tat_upd h.dim hi hj, if_pos ⟨rfl, rfl⟩]
            intro d hd
            cases hd
            exact ⟨_, rfl, ab u v e1 e2⟩
      · rename_i c
        refine same fun x y e1 e2 => (not_better c).trans fun d hd => ?_
        cases hd
        exact ⟨_, rfl, ab x y e1 e2⟩
theorem Ph.stepI {n : Nat} {bs : List B} {k : Nat} {F G : Tb} {P : Nat → Nat → Prop} (h : Ph n bs k F G P) (hk : k < n) {i : Nat} (hi : i < n) : Ph n bs k F (fwI n k G i) fun a b => P a b ∨ (a = i ∧ b < n) := by
  unfold fwI
  cases h1 : tat G i k with
  | none =>
    refine { h with dn := fun h0 a b p u v e1 e2 => ?_ }
    rcases p with p | ⟨rfl, hb⟩
    · exact h.dn h0 a b p u v e1 e2
    · obtain ⟨x, e, _⟩ := h.le a k u e1
      rw [h1] at e; cases e
  | some x =>
    refine foldl_range (fun j G => Ph n bs k F G fun a b => P a b ∨ (a = i ∧ b < j)) (fwJ k i) n (h.imp fun a b p => p.resolve_right fun z => by omega) fun j G hj h => ?_
    refine (h.stepJ hk hi hj).imp fun a b p => ?_
    rcases p with p | ⟨h1, h2⟩
    · exact .inl (.inl p)
    · by_cases hb : b < j
      · exact .inl (.inr ⟨h1, hb⟩)
      · exact .inr ⟨h1, by omega⟩
theorem ph_turn {n : Nat} {bs : List B} {k : Nat} {F : Tb} (hd : Dim n F) (hs : Snd n bs F) (hk : k < n) : Ph n bs k F (fwK n F k) fun a b => a < n ∧ b < n := by
  have h0 : Ph n bs k F F fun a b => a < 0 ∧ b < n := ⟨hd, hs, fun _ _ => .rfl', fun _ _ _ _ _ => .inl rfl, fun _ a b p => by omega⟩
  refine foldl_range (fun i G => Ph n bs k F G fun a b => a < i ∧ b < n) (fwI n k) n h0 fun i G hi h => ?_
  refine (h.stepI hk hi).imp fun a b p => ?_
  by_cases ha : a < i
  · exact .inl ⟨ha, p.2⟩
  · exact .inr ⟨by omega, p.2⟩
/-! all turns -/
structure All (n : Nat) (bs : List B) (k : Nat) (F : Tb) : Prop where
  dim : Dim n F
  snd : Snd n bs F
  dia : ∀ i, i < n → LeO (tat F i i) (some 0)
  edg : ∀ b ∈ bs, LeO (tat F b.1.toNat b.2.1.toNat) (some b.2.2)
  tri : Neg n F ∨ ∀ m, m < k → ∀ i j, i < n → j < n → ∀ a b, tat F i m = some a → tat F m j = some b → LeO (tat F i j) (some (a + b))
theorem all_step {n : Nat} {bs : List B} {k : Nat} {F : Tb} (h : All n bs k F) (hk : k < n) : All n bs (k + 1) (fwK n F k) := by
  have p := ph_turn h.dim h.snd hk
  generalize fwK n F k = G at p
  refine ⟨p.dim, p.snd, fun i hi => (p.le i i).trans (h.dia i hi), fun b hb => (p.le _ _).trans (h.edg b hb), ?_⟩
  by_cases hn : Neg n F
  · left
    obtain ⟨i, c, hi, e, l⟩ := hn
    obtain ⟨b, e2, l2⟩ := p.le i i c e
    exact ⟨i, b, hi, e2, by omega⟩
  · right
    have tri := h.tri.resolve_left hn
    have zero : ∀ i, i < n → tat F i i = some 0 := fun i hi => by
      obtain ⟨c, e, l⟩ := h.dia i hi 0 rfl
      by_cases hc : c < 0
      · exact absurd ⟨i, c, hi, e, hc⟩ hn
      · rw [e, show c = 0 by omega]
    have h0 := zero k hk
    have le2 : ∀ i j, i < n → j < n → ∀ c, tat F i j = some c → LeO (tat G i j) (some c) := fun i j hi hj c e => e ▸ p.le i j
    have dn := fun i j (hi : i < n) (hj : j < n) => p.dn h0 i j ⟨hi, hj⟩
    have mono : ∀ {x : Option Int} {c d : Int}, LeO x (some c) → c ≤ d → LeO x (some d) := fun h l => h.trans fun e he => by cases he; exact ⟨_, rfl, l⟩
    intro m hm i j hi hj a b e1 e2
    by_cases hmk : m = k
    · subst hmk
      rw [p.row hk h0 hi] at e1
      rw [p.col hk h0 hj] at e2
      exact dn i j hi hj a b e1 e2
    · have hm' : m < k := by omega
      have hmn : m < n := by omega
      rcases p.ex h0 i m hi hmn with g1 | ⟨a1, b1, g1, g2, g3⟩
      · rw [g1] at e1
        rcases p.ex h0 m j hmn hj with g4 | ⟨a2, b2, g4, g5, g6⟩
        · rw [g4] at e2
          exact (p.le i j).trans (tri m hm' i j hi hj a b e1 e2)
        · rw [g6] at e2
          cases e2
          obtain ⟨c, e, l⟩ := tri m hm' i k hi hk a a2 e1 g4 _ rfl
          exact mono (dn i j hi hj c b2 e g5) (by omega)
      · rw [g3] at e1
        cases e1
        rcases p.ex h0 m j hmn hj with g4 | ⟨a2, b2, g4, g5, g6⟩
        · rw [g4] at e2
          obtain ⟨c, e, l⟩ := tri m hm' k j hk hj b1 b g2 e2 _ rfl
          exact mono (dn i j hi hj a1 c g1 e) (by omega)
        · rw [g6] at e2
          cases e2
          obtain ⟨c, e, l⟩ := tri m hm' k k hk hk b1 a2 g2 g4 _ rfl
          rw [h0] at e
          cases e
          exact mono (dn i j hi hj a1 b2 g1 g5) (by omega)
theorem fw_all {n : Nat} {bs : List B} (ok : ∀ b ∈ bs, Ok n b) : All n bs n (fw n bs) := by
  have h := fst0 ok
  exact foldl_range (fun k F => All n bs k F) (fwK n) n ⟨h.dim, h.snd, h.dia, h.edg, .inr fun m hm => by omega⟩ fun k F hk h => all_step h hk
theorem fw_below {n : Nat} {bs : List B} (ok : ∀ b ∈ bs, Ok n b) (h : Neg n (fw n bs)) : ¬ Free bs := fun fr => by
  obtain ⟨i, c, hi, e, l⟩ := h
  obtain ⟨m, w⟩ := (fw_all ok).snd i i c hi hi e
  have := fr _ _ _ w
  omega
theorem fw_best {n : Nat} {bs : List B} (ok : ∀ b ∈ bs, Ok n b) (h : ¬ Neg n (fw n bs)) {i j c : Int} {k : Nat} (i0 : 0 ≤ i) (i1 : i < n) (w : Wk bs i j c k) : LeO (tat (fw n bs) i.toNat j.toNat) (some c) := by
  have A := fw_all ok
  have tri := A.tri.resolve_left h
  induction w with
  | nil => exact A.dia _ (by omega)
  | @snoc j c k b w hb e ih =>
    obtain ⟨i2, i3, j0, j1, ij⟩ := ok b hb
    obtain ⟨x, e1, l1⟩ := ih _ rfl
    obtain ⟨y, e2, l2⟩ := A.edg b hb _ rfl
    rw [e]
    refine (tri b.1.toNat (by omega) i.toNat b.2.1.toNat (by omega) (by omega) x y e1 e2).trans fun d hd => ?_
    cases hd
    exact ⟨_, rfl, by omega⟩
theorem fw_free {n : Nat} {bs : List B} (ok : ∀ b ∈ bs, Ok n b) (h : ¬ Neg n (fw n bs)) : Free bs := by
  intro i c k w
  -- a ring without a step, or one whose points stand in the table
  cases w with
  | nil => exact Int.le_refl 0
  | @snoc _ c k b w hb e =>
    obtain ⟨i2, i3, j0, j1, ij⟩ := ok b hb
    have hi : 0 ≤ i ∧ i < n := e ▸ ⟨j0, j1⟩
    obtain ⟨x, e1, l1⟩ := fw_best ok h hi.1 hi.2 (w.snoc hb e) _ rfl
    by_cases hx : x < 0
    · exact absurd ⟨i.toNat, x, by omega, e1, hx⟩ h
    · omega
theorem fw_lengths {n : Nat} {bs : List B} (ok : ∀ b ∈ bs, Ok n b) (h : ¬ Neg n (fw n bs)) {i j : Nat} (hi : i < n) (hj : j < n) : tat (fw n bs) i j = (lengths bs n (i : Int)).getD j none := by
  refine lengths_eq ok (fw_free ok h) (by omega) (by omega) j _ (fun c e => ?_) (fun c k w => ?_)
  · exact (fw_all ok).snd i j c hi hj e
  · have := fw_best ok h (by omega) (by omega) w
    rwa [Int.toNat_natCast, Int.toNat_natCast] at this
theorem trp_of {K : Frag} {H : Hp} : ∀ {ws : List (V × B)}, Trps K H (ws.map (·.1)) (ws.map (·.2)) → ∀ w ∈ ws, Trp K H w.1 w.2
  | [], _, w, hw => nomatch hw
  | x :: ws, .cons h t, w, hw => (List.mem_cons.mp hw).elim (fun e => e ▸ h) (trp_of t w)
theorem trps_of {K : Frag} {H : Hp} : ∀ {ws : List (V × B)}, (∀ w ∈ ws, Trp K H w.1 w.2) → Trps K H (ws.map (·.1)) (ws.map (·.2))
  | [], _ => .nil
  | x :: ws, h => .cons (h x List.mem_cons_self) (trps_of fun w hw => h w (List.mem_cons_of_mem _ hw))
theorem zip_fst {K : Frag} {H : Hp} : ∀ {us : List V} {bs : List B}, Trps K H us bs → (us.zip bs).map (·.1) = us ∧ (us.zip bs).map (·.2) = bs
  | _, _, .nil => ⟨rfl, rfl⟩
  | _, _, .cons h t => ⟨by rw [List.zip_cons_cons, List.map_cons, (zip_fst t).1], by rw [List.zip_cons_cons, List.map_cons, (zip_fst t).2]⟩
theorem len_ring_in {K : Frag} {ad : Ad} : ∀ vs H Q E, sp_ring_in K ad vs H Q E → vs.length = 2 := fun vs H Q E h => by
  obtain ⟨_, _, _, _, rfl, _⟩ := h; rfl
theorem pure_ring_in {K : Frag} {mg : Str → Option Value} {ad : Ad} (T : Txt K mg ad) (vs : List V) (H : Hp) (Q : VK) (E : XK) (h : sp_ring_in K ad vs H Q E) : t_ring_in K ad { nx := fun _ H' => Q .non H', rt := Q } (L2.start ["many", "ways", "last", "point", "_", "ring", "at"] vs) H := by
  obtain ⟨n, a, us, bs, rfl, hs, ht, ok, hl, n0, n1, k1, k2⟩ := h
  have L := Led.start0 H
  obtain ⟨z1, z2⟩ := zip_fst ht
  obtain ⟨ws, hws⟩ : ∃ ws, us.zip bs = ws := ⟨_, rfl⟩
  rw [hws] at z1 z2
  subst z1
  subst z2
  have okw : ∀ w ∈ ws, Ok n w.2 := fun w hw => ok _ (List.mem_map.mpr ⟨w, hw, rfl⟩)
  unfold t_ring_in
  walk_at "wr"
  refine ⟨n, a, ws, rfl, hs, ht, okw, by simpa using hl, n0, n1, fun t p H1 hp ht1 ne m1 e1 e2 => ?_⟩
  have La := L.gain hp m1 e2
  clear L
  cases hlow : (lows ws n).low with
  | none =>
    rw [hlow] at e1
    walk_at "wr"
    have fr := low_free n0 okw hlow
    exact k1 _ La.md fr
  | some z =>
    rw [hlow] at e1
    obtain ⟨z0, z1, hd, q, q0, q1, hq, hmin⟩ := low_ring n0 okw hlow
    obtain ⟨lk, tm, r, T', I⟩ : ∃ k tm r T, Iv ws n k (lows ws n) tm r T ws := by
      rcases lows_end n0 okw with ⟨k, tm, r, T, hk, I, e⟩ | ⟨tm, r, T, z', I, e⟩
      · exact ⟨k, tm, r, T, I⟩
      · exact ⟨n, tm, r, T, I⟩
    have tr := trp_of ht
    have at_ : ∀ m, ∃ ta b, (wayAt (lows ws n) (backs (lows ws n) z.toNat m)) = (.ref ta, b) ∧ (V.ref ta, b) ∈ ws ∧ SqT K H ta [.int (backs (lows ws n) z.toNat (m + 1) : Nat), .int b.2.1, .int b.2.2] ∧ atI ((lows ws n).last.map wV) (backs (lows ws n) z.toNat m : Nat) = some (.ref ta) := fun m => by
      obtain ⟨w, hw⟩ := hd m
      obtain ⟨i1, i2, _, _⟩ := I.prd _ _ hw
      obtain ⟨ta, e, hta⟩ := tr w i1
      obtain ⟨wv, b⟩ := w
      dsimp only at e hta
      subst e
      have hb := okw _ i1
      refine ⟨ta, b, ?_, i1, ?_, ?_⟩
      · unfold wayAt
        rw [hw]; rfl
      · have : (backs (lows ws n) z.toNat (m + 1) : Nat) = b.1.toNat := by
          show back (lows ws n) (backs (lows ws n) z.toNat m) = _
          unfold back
          rw [hw]
        rw [this, Int.toNat_of_nonneg hb.1]
        exact hta
      · refine atI_int (by omega) ?_
        rw [Int.toNat_natCast, List.getElem?_map]
        have : (lows ws n).last[backs (lows ws n) z.toNat m]? = some (some (.ref ta, b)) := by
          unfold pr at hw
          rw [List.getD_eq_getElem?_getD] at hw
          cases hg : (lows ws n).last[backs (lows ws n) z.toNat m]? with
          | none => rw [hg] at hw; cases hw
          | some u => rw [hg] at hw; cases u with
            | none => cases hw
            | some u => cases hw; rfl
        rw [this]; rfl
    generalize hX : (lows ws n).last.map wV = X at *
    generalize hS : lows ws n = S at *
    walk_at "wr"
    refine ForV.rng (fun i σ H' => ∃ v4, σ = [some (.int n), some (.ref a), some (.ref p), some (.int (backs S z.toNat i : Nat)), v4, none, none] ∧ Led [] H H' [] [(p, .lst X)] (fun _ => True))
      ⟨none, by rw [show ((backs S z.toNat 0 : Nat) : Int) = z from Int.toNat_of_nonneg z0]; rfl, La⟩ (fun i σ H' hi ⟨v4, e, Lb⟩ => ?_) (fun σ H' ⟨v4, e, Lb⟩ => ?_)
    · subst e
      obtain ⟨ta, b, e1, e2, e3, e4⟩ := at_ i
      have hD : SqL K H' p X := SqL.of (Lb.get 0 rfl)
      have hT := Lb.sqT e3
      walk_at "wr"
      refine x_ixL hD e4 ?_
      walk_at "wr"
      exact ⟨_, rfl, Lb⟩
    · subst e
      rw [Int.toNat_natCast]
      obtain ⟨ta, b, e1, e2, e3, e4⟩ := at_ n
      have hD : SqL K H' p X := SqL.of (Lb.get 0 rfl)
      have hT := Lb.sqT e3
      walk_at "wr"
      refine x_ixL hD e4 ?_
      walk_at "wr"
      rename_i p2 H2 Lc
      have hD2 : SqL K H2 p X := SqL.of (Lc.get 1 rfl)
      have hT2 := Lc.sqT e3
      refine x_ixL hD2 e4 ?_
      walk_at "wr"
      have pt : ∀ m, backs S (backs S z.toNat n) m = backs S z.toNat (n + m) := fun m => (backs_add S z.toNat n m).symm
      have w0 : (backWays S (backs S z.toNat n) 1).map (·.1) = [.ref ta] := by
        show [(wayAt S (backs S (backs S z.toNat n) 0)).1] = _
        rw [pt]
        show [(wayAt S (backs S z.toNat n)).1] = _
        rw [e1]
      refine x_while (fun m σ H' => ∃ i, σ = [some (.int n), some (.ref a), some (.ref p), some (.int (backs S z.toNat n : Nat)), v4, some (.ref p2), some (.int (backs S z.toNat (n + (i + 1)) : Nat))] ∧ i < q ∧ m = q - i ∧
          Led [] H H' [] [(p2, .lst ((backWays S (backs S z.toNat n) (i + 1)).map (·.1))), (p, .lst X)] (fun _ => True)) q
        ⟨0, rfl, q0, by omega, by rw [w0]; exact Lc⟩ ?_
      rintro m σ H3 ⟨i, rfl, hi, rfl, Ld⟩
      walk_at "wr"
      by_cases hiq : i + 1 < q
      · have ne := hmin (i + 1) (by omega) hiq
        rw [decide_eq_false (show ¬ ((backs S z.toNat (n + (i + 1)) : Nat) : Int) = (backs S z.toNat n : Nat) by omega)]
        refine WhO.yes ?_
        obtain ⟨tb, c, f1, f2, f3, f4⟩ := at_ (n + (i + 1))
        have hD3 : SqL K H3 p X := SqL.of (Ld.get 1 rfl)
        have lb : ((backWays S (backs S z.toNat n) (i + 1)).map (·.1)).length ≤ 100 := by simp [backWays]; omega
        walk_at "wr"
        refine x_ixL hD3 f4 ?_
        refine x_tnil ?_
        refine x_app 0 Ld rfl (line_lt (by omega)) fun H4 Le => ?_
        walk_at "wr"
        have hD4 : SqL K H4 p X := SqL.of (Le.get 1 rfl)
        have hT4 := Le.sqT f3
        refine x_ixL hD4 f4 ?_
        walk_at "wr"
        refine ⟨q - (i + 1), by omega, i + 1, rfl, hiq, rfl, ?_⟩
        have : backWays S (backs S z.toNat n) (i + 1 + 1) = backWays S (backs S z.toNat n) (i + 1) ++ [(.ref tb, c)] := by
          unfold backWays
          rw [List.range_succ, List.map_append, List.map_singleton, pt, f1]
        rw [this, List.map_append]
        exact Le
      · have e : i + 1 = q := by omega
        rw [e] at Ld ⊢
        rw [hq, decide_eq_true rfl]
        refine WhO.no ?_
        walk_at "wr"
        rename_i p3 H4 Le
        have rg := ring_of_back n0 okw (p := backs S z.toNat n) (q := q) (fun m => by rw [hS, pt]; exact hd _) q0 (by rw [hS, pt]; exact hq)
        rw [hS] at rg
        refine k2 p3 _ _ _ (Le.fresh0 0 rfl) Le.md (Le.get 0 rfl) (trps_grow Le.md.grow ?_) rg (by simp [backWays]; omega)
        rw [← List.map_reverse]
        refine trps_of fun w hw => tr w ?_
        rw [List.mem_reverse] at hw
        obtain ⟨m, _, rfl⟩ := List.mem_map.mp hw
        obtain ⟨tb, c, f1, f2, _, _⟩ := at_ (n + m)
        rw [pt, f1]
        exact f2
theorem PlanAt.keep {K : Frag} {ad : Ad} {H H' : Hp} {p : Addr} {n : Nat} {bs : List B} (h : PlanAt K ad H p n bs) (m : ∀ o, H p = some o → H' p = some o) (g : Grow H H') : PlanAt K ad H' p n bs := by
  obtain ⟨dx, t, us, h1, h2, h3, h4⟩ := h
  exact ⟨dx, t, us, m _ h1, g.1 _ _ h2, trps_grow g h3, h4⟩
theorem PlanAt.mod {K : Frag} {ad : Ad} {H H' : Hp} {p : Addr} {n : Nat} {bs : List B} (h : PlanAt K ad H p n bs) (m : Mod [] H H') : PlanAt K ad H' p n bs := h.keep (fun o e => m.keep _ _ (by simp) e) m.grow
theorem Pt.grow {K : Frag} {H H' : Hp} {n : Int} {v : V} (h : Pt K H n v) : Pt K H' n v := h
theorem NoPt.mod {K : Frag} {H H' : Hp} {n : Int} {v : V} (h : NoPt K H n v) (m : Mod [] H H') : NoPt K H' n v := h.imp id fun ⟨k, a, b, c⟩ => ⟨k, ty_keep m a, b, c⟩
theorem index_no {K : Frag} {ad : Ad} {H : Hp} {n : Int} {v : V} {Q : VK} {E : XK} (h : NoPt K H n v) (q : Q (.bl false) H) : sp_is_index K ad [v, .int n] H Q E := by
  rcases h with ⟨i, rfl, h⟩ | ⟨m, h1, h2, h3⟩
  · exact ⟨_, n, rfl, .inl ⟨i, rfl, by rw [decide_eq_false h]; exact q⟩⟩
  · exact ⟨_, n, rfl, .inr ⟨m, h1, h2, h3, q⟩⟩
theorem index_yes {K : Frag} {ad : Ad} {H : Hp} {n : Int} {v : V} {Q : VK} {E : XK} (h : Pt K H n v) (q : Q (.bl true) H) : sp_is_index K ad [v, .int n] H Q E := by
  obtain ⟨i, rfl, h⟩ := h
  exact ⟨_, n, rfl, .inl ⟨i, rfl, by rw [decide_eq_true h]; exact q⟩⟩
theorem len_Plan_init {K : Frag} {ad : Ad} : ∀ vs H Q E, sp_Plan_init K ad vs H Q E → vs.length = 3 := fun vs H Q E h => by
  obtain ⟨_, _, _, _, _, _, rfl, _⟩ := h; rfl
theorem pure_Plan_init {K : Frag} {mg : Str → Option Value} {ad : Ad} (T : Txt K mg ad) (vs : List V) (H : Hp) (Q : VK) (E : XK) (h : sp_Plan_init K ad vs H Q E) : t_Plan_init K ad { nx := fun _ H' => Q .non H', rt := Q } (L2.start ["self", "many", "bounds"] vs) H := by
  obtain ⟨p, dx, a, n, us, bs, rfl, hp, hs, hap, ht, ok, hl, n0, n1, k⟩ := h
  have L := Led.start1 hp
  unfold t_Plan_init
  walk_at "wr"
  refine ⟨_, _, _, rfl, ?_⟩
  rw [decide_eq_true (show (1 : Int) ≤ n ∧ (n : Int) ≤ 30 by omega)]
  walk_at "wr"
  refine ⟨_, _, us, bs, rfl, hs, ht, ok, hl, fun H1 m1 => ?_⟩
  have L1 := L.stay m1
  clear L
  walk_at "wr"
  refine SFldV.mk 0 L1 rfl T.cl_Plan T.n_Plan_many (by simp) fun H2 L2 => ?_
  have hs2 := L2.sqL (by simpa using hap) hs
  walk_at "wr"
  refine x_tupL L2 hs2 fun q H3 L3 => ?_
  walk_at "wr"
  refine SFldV.mk 1 L3 rfl T.cl_Plan T.n_Plan_bounds (by show 1 < 1000; omega) fun H4 L4 => ?_
  exact k _ L4.md ⟨dx, q, us, L4.get 1 rfl, L4.get 0 rfl, trps_grow L4.md.grow ht, hl⟩
theorem len_Plan_ring {K : Frag} {ad : Ad} : ∀ vs H Q E, sp_Plan_ring K ad vs H Q E → vs.length = 1 := fun vs H Q E h => by
  obtain ⟨_, _, _, rfl, _⟩ := h; rfl
theorem pure_Plan_ring {K : Frag} {mg : Str → Option Value} {ad : Ad} (T : Txt K mg ad) (vs : List V) (H : Hp) (Q : VK) (E : XK) (h : sp_Plan_ring K ad vs H Q E) : t_Plan_ring K ad { nx := fun _ H' => Q .non H', rt := Q } (L2.start ["self"] vs) H := by
  obtain ⟨p, n, bs, rfl, ⟨dx, t, us, hp, htu, tr, lu⟩, ok, n0, n1, k1, k2⟩ := h
  unfold t_Plan_ring
  walk_at "wr"
  refine FldV.mk hp T.cl_Plan T.n_Plan_many rfl ?_
  walk_at "wr"
  refine FldV.mk hp T.cl_Plan T.n_Plan_bounds rfl ?_
  walk_at "wr"
  exact ⟨n, t, us, bs, rfl, SqT.of htu, tr, ok, lu, n0, n1, k1, k2⟩
theorem lengths_len (bs : List B) (n : Nat) (s : Int) : (lengths bs n s).length = n := by
  unfold lengths
  rw [rounds_len]
  unfold begin0
  simp
theorem len_Plan_tight {K : Frag} {ad : Ad} : ∀ vs H Q E, sp_Plan_tight K ad vs H Q E → vs.length = 3 := fun vs H Q E h => by
  obtain ⟨_, _, _, _, _, rfl, _⟩ := h; rfl
theorem pure_Plan_tight {K : Frag} {mg : Str → Option Value} {ad : Ad} (T : Txt K mg ad) (vs : List V) (H : Hp) (Q : VK) (E : XK) (h : sp_Plan_tight K ad vs H Q E) : t_Plan_tight K ad E { nx := fun _ H' => Q .non H', rt := Q } (L2.start ["self", "one", "other", "point", "ring"] vs) H := by
  obtain ⟨p, n, bs, x, y, rfl, pa, ok, n0, n1, tg⟩ := h
  have L := Led.start0 H
  unfold t_Plan_tight
  walk_at "wr"
  rename_i q H1 L1
  have pick : ∀ {H' : Hp}, Mod [] H H' → (Pt K H n x → Pt K H n y → Q = Q) := fun _ _ _ => rfl
  refine ForV.tup (K := K) (a := q) (xs := [x, y]) (fun i σ H' => ∃ v3, σ = [some (.ref p), some x, some y, v3, none] ∧ Led [] H H' [] [(q, .tup [x, y])] (fun _ => True) ∧ (1 ≤ i → Pt K H n x) ∧ (2 ≤ i → Pt K H n y))
    ⟨_, rfl, L1, by omega, by omega⟩ (fun i σ H' hi ⟨_, _, L', _⟩ => SqT.of (L'.get 0 rfl)) (fun i z σ H' hz ⟨v3, e, L', hx, hy⟩ => ?_) (fun σ H' ⟨v3, e, L', hx, hy⟩ => ?_)
  · subst e
    obtain ⟨dx, t, us, hp, htu, tr, lu⟩ := pa.mod L'.md
    walk_at "wr"
    refine FldV.mk hp T.cl_Plan T.n_Plan_many rfl ?_
    walk_at "wr"
    match i, hz with
    | 0, hz =>
      cases hz
      rcases tg with ⟨nx, k⟩ | ⟨px, ny, k⟩ | ⟨i, j, rfl, rfl, i0, i1, j0, j1, k1, k2⟩
      · refine index_no (nx.mod L'.md) ?_
        walk_at "wr"
        refine RaiseV.mk L' fun d H2 L2 => ?_
        exact k _ _ (L2.fresh0 0 rfl) L2.md (L2.get 0 rfl)
      · refine index_yes px.grow ?_
        walk_at "wr"
        exact ⟨_, rfl, L', fun _ => px, by omega⟩
      · refine index_yes ⟨i, rfl, i0, i1⟩ ?_
        walk_at "wr"
        exact ⟨_, rfl, L', fun _ => ⟨i, rfl, i0, i1⟩, by omega⟩
    | 1, hz =>
      cases hz
      rcases tg with ⟨nx, k⟩ | ⟨px, ny, k⟩ | ⟨i, j, rfl, rfl, i0, i1, j0, j1, k1, k2⟩
      · exfalso
        obtain ⟨i, rfl, hi⟩ := hx (by omega)
        rcases nx with ⟨i', e, hi'⟩ | ⟨m, h1, h2, h3⟩
        · cases e; exact hi' hi
        · cases h1 with
          | base h1 => cases h1; exact h3 rfl
      · refine index_no (ny.mod L'.md) ?_
        walk_at "wr"
        refine RaiseV.mk L' fun d H2 L2 => ?_
        exact k _ _ (L2.fresh0 0 rfl) L2.md (L2.get 0 rfl)
      · refine index_yes ⟨j, rfl, j0, j1⟩ ?_
        walk_at "wr"
        exact ⟨_, rfl, L', fun _ => hx (by omega), fun _ => ⟨j, rfl, j0, j1⟩⟩
    | i + 2, hz => simp at hz
  · subst e
    obtain ⟨i, rfl, i0, i1⟩ := hx (by simp)
    obtain ⟨j, rfl, j0, j1⟩ := hy (by simp)
    rcases tg with ⟨nx, _⟩ | ⟨px, ny, _⟩ | ⟨i', j', e1, e2, _, _, _, _, k1, k2⟩
    · exfalso
      rcases nx with ⟨i', e, hi'⟩ | ⟨m, h1, h2, h3⟩
      · cases e; exact hi' ⟨i0, i1⟩
      · cases h1 with
        | base h1 => cases h1; exact h3 rfl
    · exfalso
      rcases ny with ⟨i', e, hi'⟩ | ⟨m, h1, h2, h3⟩
      · cases e; exact hi' ⟨j0, j1⟩
      · cases h1 with
        | base h1 => cases h1; exact h3 rfl
    cases e1
    cases e2
    obtain ⟨dx, t, us, hp, htu, tr, lu⟩ := pa.mod L'.md
    walk_at "wr"
    refine MeV.mk hp rfl ?_
    walk_at "wr"
    refine ⟨p, n, bs, rfl, ⟨dx, t, us, hp, htu, tr, lu⟩, ok, n0, n1, fun H2 m2 fr => ?_, fun r ps rs H2 hr m2 er etr rg lr => ?_⟩
    · have La := L'.stay m2
      have hp2 := m2.keep _ _ (by simp) hp
      have ht2 := m2.grow.1 _ _ htu
      walk_at "wr"
      refine FldV.mk hp2 T.cl_Plan T.n_Plan_many rfl ?_
      walk_at "wr"
      refine FldV.mk hp2 T.cl_Plan T.n_Plan_bounds rfl ?_
      walk_at "wr"
      refine ⟨n, i, t, us, bs, rfl, SqT.of ht2, trps_grow m2.grow tr, ok, lu, n0, n1, i0, i1, fun r H3 hr m3 er => ?_⟩
      have Lb := La.gain hr m3 er
      walk_at "wr"
      have hg : ((lengths bs n i).map oV)[j.toNat]? = some (oV ((lengths bs n i).getD j.toNat none)) := by
        rw [List.getElem?_map, List.getD_eq_getElem?_getD, List.getElem?_eq_getElem (by rw [lengths_len]; omega)]
        rfl
      refine x_ixL (SqL.of er) (atI_int j0 hg) ?_
      exact k1 _ Lb.md fr
    · have La := (L'.gain hr m2 er).phi stab_trps etr
      walk_at "wr"
      refine RaiseV.mk La fun d H3 Lb => ?_
      refine k2 _ _ _ _ _ Lb.md (Lb.fresh0 0 rfl) (Lb.fresh0 1 rfl) (Lb.get 0 rfl) (Lb.get 1 rfl) Lb.ph rg lr
theorem gone_nx {i : Nat} {D : Ends} {σ : L2.St} {H : Hp} (h : D.nx (σ.set i none) H) : (gone i D).nx σ H := h
theorem len_law_told {K : Frag} {ad : Ad} : ∀ vs H Q E, sp_law_told K ad vs H Q E → vs.length = 4 := fun vs H Q E h => by
  obtain ⟨_, _, _, _, _, _, rfl, _⟩ := h; rfl
theorem pure_law_told {K : Frag} {mg : Str → Option Value} {ad : Ad} (T : Txt K mg ad) (vs : List V) (H : Hp) (Q : VK) (E : XK) (h : sp_law_told K ad vs H Q E) : t_law_told K ad { nx := fun _ H' => Q .non H', rt := Q } (L2.start ["plan", "one", "other", "way", "told", "e"] vs) H := by
  obtain ⟨p, n, bs, x, y, way, rfl, pa, ok, n0, n1, td⟩ := h
  obtain ⟨fI, TI⟩ := T.e_InvalidPoint
  obtain ⟨fN, TN⟩ := T.e_NoPlan
  have pa' := pa
  obtain ⟨dx, t0, us, hp, htu, tr, lu⟩ := pa'
  have L := Led.start0 H
  unfold t_law_told
  walk_at "wr"
  walk_at "wr"
  refine IfT.by_ (fun c => ?a) (fun c => ?b)
  case' a =>
    walk_at "wr"
    refine MeV.mk hp rfl ?_
    walk_at "wr"
  case' b =>
    walk_at "wr"
    refine MeKV.mk hp rfl ?_
    walk_at "wr"
    show sp_Plan_tight K ad [.ref p, x, y] H _ _
  all_goals
    refine ⟨p, n, bs, x, y, rfl, pa, ok, n0, n1, ?_⟩
    rcases td with ⟨nx, k⟩ | ⟨px, ny, k⟩ | ⟨i, j, e1, e2, i0, i1, j0, j1, k1, k2⟩
    · refine .inl ⟨nx, fun d H1 hd m1 e1 => ?_⟩
      have La := L.gain hd m1 e1
      refine wCls_hit TI.te fun a ha => ?_
      walk_at "wr"
      refine XfV.mk e1 rfl ?_
      walk_at "wr"
      rename_i t H2 Lb
      refine gone_nx ?_
      walk_at "wr"
      exact k _ _ (Lb.fresh0 0 rfl) Lb.md (Lb.get 0 rfl)
    · refine .inr (.inl ⟨px, ny, fun d H1 hd m1 e1 => ?_⟩)
      have La := L.gain hd m1 e1
      refine wCls_hit TI.te fun a ha => ?_
      walk_at "wr"
      refine XfV.mk e1 rfl ?_
      walk_at "wr"
      rename_i t H2 Lb
      refine gone_nx ?_
      walk_at "wr"
      exact k _ _ (Lb.fresh0 0 rfl) Lb.md (Lb.get 0 rfl)
    · refine .inr (.inr ⟨i, j, e1, e2, i0, i1, j0, j1, fun H1 m1 fr => ?_, fun d q ps rs H1 m1 hd hq ed eq etr rg lr => ?_⟩)
      · walk_at "wr"
        exact k1 _ m1 fr
      · have La := ((L.gain hq m1 eq).phi stab_trps etr)
        refine wCls_miss T.x_NoPlan_InvalidPoint (wCls_hit TN.te fun a ha => ?_)
        walk_at "wr"
        refine XfV.mk ed rfl ?_
        walk_at "wr"
        rename_i t H2 Lb
        refine gone_nx ?_
        walk_at "wr"
        exact k2 _ _ _ _ _ (Lb.fresh0 0 rfl) (Lb.fresh0 1 rfl) Lb.md (Lb.get 0 rfl) (Lb.get 1 rfl) Lb.ph rg lr
theorem len_law_blames {K : Frag} {ad : Ad} : ∀ vs H Q E, sp_law_blames K ad vs H Q E → vs.length = 2 := fun vs H Q E h => by
  obtain ⟨_, _, rfl, _⟩ := h; rfl
theorem pure_law_blames {K : Frag} {mg : Str → Option Value} {ad : Ad} (T : Txt K mg ad) (vs : List V) (H : Hp) (Q : VK) (E : XK) (h : sp_law_blames K ad vs H Q E) : t_law_blames K ad { nx := fun _ H' => Q .non H', rt := Q } (L2.start ["told", "value"] vs) H := by
  obtain ⟨t, x, rfl, ht, od, k⟩ := h
  have hq : SqT K H t [.str "point", x] := SqT.of ht
  unfold t_law_blames
  walk_at "wr"
  refine IfT.yes ?_
  walk_at "wr"
  refine IfT.yes ?_
  walk_at "wr"
  exact ⟨x, rfl, od, k⟩
def dB (b : B) : PyData := .tuple [.int b.1, .int b.2.1, .int b.2.2]
theorem trp_dp {K : Frag} {H : Hp} {v : V} {b : B} (h : Trp K H v b) : Dp K H v (dB b) := by
  obtain ⟨a, rfl, h⟩ := h
  exact .tup h (.cons (.int _) (.cons (.int _) (.cons (.int _) .nil)))
theorem trps_dp {K : Frag} {H : Hp} : ∀ {us : List V} {bs : List B}, Trps K H us bs → DpAll K H us (bs.map dB)
  | _, _, .nil => .nil
  | _, _, .cons h t => .cons (trp_dp h) (trps_dp t)
theorem dB_flat (b : B) : Flat 1 (dB b) := .tup (n := 0) (fun d hd => by
  simp only [List.mem_cons, List.not_mem_nil, or_false] at hd
  rcases hd with rfl | rfl | rfl <;> exact .int) (by simp)
theorem dBs_flat {bs : List B} (l : bs.length ≤ 100000) : Flat 2 (.list (bs.map dB)) := .lst (fun d hd => by
  obtain ⟨b, _, rfl⟩ := List.mem_map.mp hd
  exact dB_flat b) (by simpa using l)
theorem len_law_is_ring {K : Frag} {ad : Ad} : ∀ vs H Q E, sp_law_is_ring K ad vs H Q E → vs.length = 2 := fun vs H Q E h => by
  obtain ⟨_, _, _, _, _, _, rfl, _⟩ := h; rfl
theorem pure_law_is_ring {K : Frag} {mg : Str → Option Value} {ad : Ad} (T : Txt K mg ad) (vs : List V) (H : Hp) (Q : VK) (E : XK) (h : sp_law_is_ring K ad vs H Q E) : t_law_is_ring K ad { nx := fun _ H' => Q .non H', rt := Q } (L2.start ["bounds", "value", "one", "item", "k"] vs) H := by
  obtain ⟨a, q, us, ps, bs, rs, rfl, hs, ht, hl, hq, hr, hl2, ⟨ne, mem, cyc, neg⟩, k⟩ := h
  have L := Led.start0 H
  have e1 := pairLen ht
  have e2 := pairLen hr
  have p0 : 0 < rs.length := by cases rs with
    | nil => exact absurd rfl ne
    | cons _ _ => simp
  unfold t_law_is_ring
  walk_at "wr"
  rw [decide_eq_false (show ¬ ((ps.length : Int) = 0) by omega)]
  walk_at "wr"
  refine ForV.lst (K := K) (a := q) (xs := ps) (fun i σ H' => ∃ v2 v3, σ = [some (.ref a), some (.ref q), v2, v3, none] ∧ Led [] H H' [] [] (fun _ => True))
    ⟨_, _, rfl, L⟩ (fun i σ H' hi ⟨_, _, _, L'⟩ => L'.sqL (by simp) hq) (fun i x σ H' hx ⟨v2, v3, e, L'⟩ => ?_) (fun σ H' ⟨v2, v3, e, L'⟩ => ?_)
  · subst e
    obtain ⟨r, hr1, ta, rfl, hta⟩ := pairAt hr hx
    have rm := mem r (List.mem_of_getElem? hr1)
    have hT := L'.sqT hta
    walk_at "wr"
    refine (show ∀ {A B : Prop} {x : Int}, x = 3 → B → IfT (!decide (x = 3)) A B from fun h b => by subst h; exact b) rfl ?_
    walk_at "wr"
    refine LcV.tup L' (fun D i H' => Led [] H H' [] [(D, .lst [])] (fun _ => True)) (fun D H' L' => L') (fun D i H' hi L' => L'.sqT hta) (fun D i x H' hx L' => ?_) (fun D H' L' => ?_)
    · obtain ⟨z, rfl⟩ : ∃ z, x = .int z := by
        have := List.mem_of_getElem? hx
        simp only [List.mem_cons, List.not_mem_nil, or_false] at this
        rcases this with rfl | rfl | rfl <;> exact ⟨_, rfl⟩
      walk_at "wr"
      refine ⟨_, "int", rfl, .base (.int _), by decide, ?_⟩
      rw [show (decide (("int" : String) = "int")) = true from rfl]
      walk_at "wr"
      exact L'
    · walk_at "wr"
      rename_i p2 H2 L2
      refine x_neNil (SqL.of (L2.get 1 rfl)) (SqL.of (L2.get 0 rfl)) .nil (by simp) (by simp) ?_
      refine TestV.mk ?_
      refine IfT.no ?_
      walk_at "wr"
      have tr2 := trps_grow L2.md.grow ht
      refine .inr ⟨dB r, bs.map dB, trp_dp ⟨ta, rfl, L2.sqT hta⟩, .lst (L2.sqL (by simp) hs) (trps_dp tr2), (dB_flat r).shaped (by decide), (dBs_flat (by omega)).shaped (by decide), ?_⟩
      have any : ((bs.map dB).any fun z => PyData.eqv z (dB r)) = true := List.any_eq_true.mpr ⟨dB r, List.mem_map.mpr ⟨r, rm, rfl⟩, (dB_flat r).refl⟩
      rw [any]
      walk_at "wr"
      exact ⟨_, _, rfl, L2.sub (List.nil_sublist _)⟩
  · subst e
    have hq1 := L'.sqL (by simp) hq
    walk_at "wr"
    refine LcV.rng L' (fun D i H' => Led [] H H' [] [(D, .lst [])] (fun _ => True)) (fun D H' L' => L') (fun D i H' hi L' => ?_) (fun D H' L' => ?_)
    · rw [Int.toNat_natCast] at hi
      obtain ⟨r, r2, g1, g2, g3⟩ := cyc i (by omega)
      obtain ⟨v, hv, ta, rfl, hta⟩ := pairAt' hr g1
      obtain ⟨v', hv', tb, rfl, htb⟩ := pairAt' hr g2
      have hq2 := L'.sqL (by simp) hq
      have hT := L'.sqT hta
      have hT2 := L'.sqT htb
      rw [Int.zero_add]
      walk_at "wr"
      refine x_ixL hq2 (atI_nat hv) ?_
      walk_at "wr"
      have im : atI ps (((i : Int) + 1) % (ps.length : Int)) = some (.ref tb) := by
        have : (((i : Int) + 1) % (ps.length : Int)) = ((i + 1) % rs.length : Nat) := by rw [e2]; simp
        rw [this]
        exact atI_nat hv'
      refine x_ixL hq2 im ?_
      walk_at "wr"
      rw [decide_eq_true g3]
      walk_at "wr"
      exact L'
    · walk_at "wr"
      rename_i p2 H2 L2
      refine x_neNil (SqL.of (L2.get 1 rfl)) (SqL.of (L2.get 0 rfl)) .nil (by simp) (by simp) ?_
      refine TestV.mk ?_
      refine IfS.no ?_
      have hq3 := L2.sqL (by simp) hq
      walk_at "wr"
      refine LcV.lst L2 (fun D i H' => Led [] H H' [] [(D, .lst (((rs.take i).map (·.2.2)).map V.int))] (fun _ => True)) (fun D H' L' => by simpa using L'.sub (List.Sublist.cons₂ _ (List.nil_sublist _))) (fun D i H' hi L' => L'.sqL (by simp) hq) (fun D i x H' hx L' => ?_) (fun D H' L' => ?_)
      · obtain ⟨r, hr1, ta, rfl, hta⟩ := pairAt hr hx
        have hT := L'.sqT hta
        walk_at "wr"
        refine AccV.mk 0 L' rfl (line_lt (by simp; omega)) fun H3 L3 => ?_
        rw [take_more hr1, List.map_append, List.map_append]
        exact L3
      · rw [e2, List.take_of_length_le (Nat.le_refl _)] at L'
        walk_at "wr"
        refine x_sum (SqL.of (L'.get 0 rfl)) ?_
        walk_at "wr"
        rw [decide_eq_true neg]
        exact k _ L'.md
theorem len_law_reached {K : Frag} {ad : Ad} : ∀ vs H Q E, sp_law_reached K ad vs H Q E → vs.length = 5 := fun vs H Q E h => by
  obtain ⟨_, _, _, _, _, _, _, rfl, _⟩ := h; rfl
theorem pure_law_reached {K : Frag} {mg : Str → Option Value} {ad : Ad} (T : Txt K mg ad) (vs : List V) (H : Hp) (Q : VK) (E : XK) (h : sp_law_reached K ad vs H Q E) : t_law_reached K ad { nx := fun _ H' => Q .non H', rt := Q } (L2.start ["many", "bounds", "one", "other", "distance", "more", "due", "plan"] vs) H := by
  obtain ⟨n, a, us, bs, i, j, d, rfl, ha, ht, ok, hl, n0, n1, i0, i1, j0, j1, ij, fr, hd, k⟩ := h
  have L := Led.start0 H
  unfold t_law_reached
  walk_at "wr"
  rename_i t1 H1 L1 t2 H2 L2 p3 H3 L3
  refine ForV.lst (K := K) (a := p3) (xs := [.ref t1, .ref t2]) (fun m σ H' => ∃ v5 v6 v7, σ = [some (.int n), some (.ref a), some (.int i), some (.int j), some (.int d), v5, v6, v7] ∧ Led [] H H' [] [(p3, .lst [.ref t1, .ref t2]), (t2, .tup [.int 1, .bl false]), (t1, .tup [.int 0, .bl true])] (fun _ => True))
    ⟨_, _, _, rfl, L3⟩ (fun m σ H' hm ⟨_, _, _, _, L'⟩ => SqL.of (L'.get 0 rfl)) (fun m x σ H' hx ⟨v5, v6, v7, e, L'⟩ => ?_) (fun σ H' ⟨v5, v6, v7, e, L'⟩ => ?_)
  · subst e
    obtain ⟨more, due, t, rfl, htm, hdue⟩ : ∃ (more : Int) (due : Bool) (t : Addr), x = .ref t ∧ H' t = some (.tup [.int more, .bl due]) ∧ (due = true → Free (bs ++ [(j, i, -d - more)])) ∧ (due = false → ¬ Free (bs ++ [(j, i, -d - more)])) := by
      match m, hx with
      | 0, hx =>
        cases hx
        exact ⟨0, true, t1, rfl, L'.get 2 rfl, fun _ => by rw [Int.sub_zero]; exact turned_free ok fr i0 i1 j0 hd, fun z => nomatch z⟩
      | 1, hx =>
        cases hx
        exact ⟨1, false, t2, rfl, L'.get 1 rfl, fun z => (nomatch z), fun _ => turned_not ok j0 hd⟩
      | m + 2, hx => simp at hx
    walk_at "wr"
    rename_i p4 H4 L4 p5 H5 L5
    have ha5 := L5.md.keep _ _ (by simp) ha
    have lt := pairLen ht
    refine x_addL L5 ha5 (L5.get 0 rfl) (line_big (by simp; omega)) fun p6 H6 L6 => ?_
    walk_at "wr"
    refine MkV.mk L6 fun y dx H7 L7 => ?_
    have tr7 : Trps K H7 (us ++ [.ref p4]) (bs ++ [(j, i, -d - more)]) := pairApp (trps_grow L7.md.grow ht) (.cons ⟨p4, rfl, SqT.of (L7.get 4 rfl)⟩ .nil)
    have ok7 : ∀ b ∈ bs ++ [(j, i, -d - more)], Ok n b := fun b hb => (List.mem_append.mp hb).elim (ok b) fun hb => by
      obtain rfl : b = (j, i, -d - more) := by simpa using hb
      exact ⟨j0, j1, i0, i1, fun z => ij z.symm⟩
    refine ⟨y, dx, p6, n, us ++ [.ref p4], bs ++ [(j, i, -d - more)], rfl, L7.get 0 rfl, SqL.of (L7.get 2 rfl), L7.ne 2 0 rfl rfl (by decide), tr7, ok7, by simp; omega, n0, n1, fun H8 m8 pa => ⟨rfl, ?_⟩⟩
    have pa' := pa
    obtain ⟨dx', t', us', hp, htu, tr, lu⟩ := pa'
    have L8 := L7.change (i := 0) rfl m8 hp
    walk_at "wr"
    refine MeV.mk hp rfl ?_
    walk_at "wr"
    refine ⟨y, n, bs ++ [(j, i, -d - more)], rfl, pa, ok7, n0, n1, fun H9 m9 fr9 => ?_, fun q ps rs H9 hq m9 eq etr rg lr => ?_⟩
    · have L9 := L8.stay m9
      have : due = true := by
        cases due with
        | true => rfl
        | false => exact absurd fr9 (hdue.2 rfl)
      subst this
      walk_at "wr"
      refine IfS.no ?_
      walk_at "wr"
      exact ⟨_, _, _, rfl, L9.sub (by exact .cons _ (.cons _ (.cons _ (.cons _ (.cons _ (List.Sublist.refl _))))))⟩
    · have L9 := L8.gain hq m9 eq
      have : due = false := by
        cases due with
        | false => rfl
        | true => exact absurd (hdue.1 rfl) (ring_not rg)
      subst this
      walk_at "wr"
      refine IfS.no ?_
      walk_at "wr"
      exact ⟨_, _, _, rfl, L9.sub (by exact .cons _ (.cons _ (.cons _ (.cons _ (.cons _ (.cons _ (List.Sublist.refl _)))))))⟩
  · subst e
    walk_at "wr"
    exact k _ L'.md
def tbR (rows : List Addr) (M : Tb) : Rec := (rows.zip M).map fun rm => (rm.1, .lst (rm.2.map oV))
theorem tbR_get {n : Nat} {rows : List Addr} {M : Tb} (hl : rows.length = n) (hd : Dim n M) {i : Nat} (hi : i < n) : ∃ r, rows[i]? = some r ∧ (tbR rows M)[i]? = some (r, .lst ((M.getD i []).map oV)) := by
  have h1 : rows[i]? = some (rows[i]'(by omega)) := List.getElem?_eq_getElem _
  have h2 : M[i]? = some (M[i]'(by rw [hd.1]; omega)) := List.getElem?_eq_getElem _
  refine ⟨_, h1, ?_⟩
  unfold tbR
  rw [List.getElem?_map, (show (rows.zip M)[i]? = some (rows[i]'(by omega), M[i]'(by rw [hd.1]; omega)) from List.getElem?_zip_eq_some.mpr ⟨h1, h2⟩), List.getD_eq_getElem?_getD, h2]
  rfl
theorem tbR_set : ∀ {rows : List Addr} {M : Tb} {i : Nat} {r : Addr} {m : List (Option Int)}, rows[i]? = some r → (tbR rows M).set i (r, .lst (m.map oV)) = tbR rows (M.set i m)
  | [], M, i, r, m, h => by simp at h
  | x :: rows, [], i, r, m, h => rfl
  | x :: rows, y :: M, 0, r, m, h => by
    cases h; rfl
  | x :: rows, y :: M, i + 1, r, m, h => by
    show (x, _) :: (tbR rows M).set i _ = (x, _) :: tbR rows (M.set i m)
    rw [tbR_set (rows := rows) (by simpa using h)]
theorem tbR_app {rows : List Addr} {M : Tb} (h : rows.length = M.length) (r : Addr) (m : List (Option Int)) : tbR (rows ++ [r]) (M ++ [m]) = tbR rows M ++ [(r, .lst (m.map oV))] := by
  unfold tbR
  rw [List.zip_append h, List.map_append]
  rfl
theorem row_at {n : Nat} {M : Tb} (hd : Dim n M) {i j : Nat} (hi : i < n) (hj : j < n) : atI ((M.getD i []).map oV) (j : Int) = some (oV (tat M i j)) := by
  refine atI_nat ?_
  rw [List.getElem?_map, List.getElem?_eq_getElem (by rw [hd.2 i hi]; exact hj)]
  unfold tat
  rw [List.getD_eq_getElem?_getD (l := M.getD i []), List.getElem?_eq_getElem (by rw [hd.2 i hi]; exact hj)]
  rfl
theorem ref_at {rows : List Addr} {i : Nat} {r : Addr} (h : rows[i]? = some r) : atI (rows.map V.ref) (i : Int) = some (.ref r) := atI_nat (by rw [List.getElem?_map, h]; rfl)
theorem paired_at {α β : Type} {F : α → β → Prop} : ∀ {xs : List α} {ys : List β}, xs.length = ys.length → (∀ (i : Nat) (x : α) (y : β), xs[i]? = some x → ys[i]? = some y → F x y) → Paired F xs ys
  | [], [], _, _ => .nil
  | [], y :: ys, h, _ => by simp at h
  | x :: xs, [], h, _ => by simp at h
  | x :: xs, y :: ys, h, g => .cons (g 0 x y rfl rfl) (paired_at (by simpa using h) fun i a b e1 e2 => g (i + 1) a b (by simpa using e1) (by simpa using e2))
theorem fwB_dim {n : Nat} {M : Tb} (h : Dim n M) (b : B) : Dim n (fwB M b) := by
  unfold fwB
  split
  · exact upd_dim h _ _ _
  · exact h
theorem fwBs_dim {n : Nat} : ∀ (bs : List B) {M : Tb}, Dim n M → Dim n (bs.foldl fwB M)
  | [], M, h => h
  | b :: bs, M, h => fwBs_dim bs (fwB_dim h b)
theorem fwJ_dim {n k i : Nat} {M : Tb} (h : Dim n M) (j : Nat) : Dim n (fwJ k i M j) := by
  unfold fwJ
  split
  · split
    · exact upd_dim h _ _ _
    · exact h
  · exact h
theorem fold_dim {n : Nat} {f : Tb → Nat → Tb} (hf : ∀ {M : Tb} (j : Nat), Dim n M → Dim n (f M j)) : ∀ (js : List Nat) {M : Tb}, Dim n M → Dim n (js.foldl f M)
  | [], M, h => h
  | j :: js, M, h => fold_dim hf js (hf j h)
theorem fwI_dim {n k : Nat} {M : Tb} (h : Dim n M) (i : Nat) : Dim n (fwI n k M i) := by
  unfold fwI
  split
  · exact h
  · exact fold_dim (fun j h => fwJ_dim h j) _ h
theorem fwK_dim {n : Nat} {M : Tb} (h : Dim n M) (k : Nat) : Dim n (fwK n M k) := fold_dim (fun i h => fwI_dim h i) _ h
theorem fwJ_some {n k i : Nat} {M : Tb} (hd : Dim n M) (hi : i < n) (j : Nat) (hj : j < n) {a : Int} (h : tat M i k = some a) : ∃ b, tat (fwJ k i M j) i k = some b := by
  unfold fwJ
  rw [h]
  cases h2 : tat M k j with
  | none => exact ⟨a, h⟩
  | some b =>
    show ∃ c, tat (if better (a + b) (tat M i j) = true then upd M i j (some (a + b)) else M) i k = some c
    split
    · rw [tat_upd hd hi hj]
      split
      · exact ⟨_, rfl⟩
      · exact ⟨a, h⟩
    · exact ⟨a, h⟩
theorem upd_rec {n : Nat} {rows : List Addr} {M : Tb} {f r : Addr} {i j : Nat} {c : Int} (hr : rows[i]? = some r) :
    ((f, HO.lst (rows.map V.ref)) :: tbR rows M).set (i + 1) (r, .lst (((M.getD i []).map oV).set j (.int c))) = (f, HO.lst (rows.map V.ref)) :: tbR rows (upd M i j (some c)) := by
  rw [List.set_cons_succ, show (V.int c) = oV (some c) from rfl, ← List.map_set, tbR_set hr]
  rfl
theorem range_more {σ : Type _} (f : σ → Nat → σ) (s : σ) (i : Nat) : (List.range (i + 1)).foldl f s = f ((List.range i).foldl f s) i := by
  rw [List.range_succ, List.foldl_append]; rfl
theorem len_law_far {K : Frag} {ad : Ad} : ∀ vs H Q E, sp_law_far K ad vs H Q E → vs.length = 2 := fun vs H Q E h => by
  obtain ⟨_, _, _, _, rfl, _⟩ := h; rfl
theorem pure_law_far {K : Frag} {mg : Str → Option Value} {ad : Ad} (T : Txt K mg ad) (vs : List V) (H : Hp) (Q : VK) (E : XK) (h : sp_law_far K ad vs H Q E) : t_law_far K ad { nx := fun _ H' => Q .non H', rt := Q } (L2.start ["many", "bounds", "far", "i", "j", "most", "k"] vs) H := by
  obtain ⟨n, a, us, bs, rfl, hs, ht, ok, hl, n0, n1, k⟩ := h
  have L := Led.start0 H
  have e1 := pairLen ht
  unfold t_law_far
  walk_at "wr"
  refine LcV.rng L (fun D i H' => ∃ rows : List Addr, rows.length = i ∧ Led [] H H' [] ((D, .lst (rows.map V.ref)) :: tbR rows ((fw0 n).take i)) (fun _ => True)) (fun D H' L' => ⟨[], rfl, by simpa [tbR] using L'⟩) (fun D i H' hi ⟨rows, hr, L'⟩ => ?_) (fun f H' ⟨rows, hr, L'⟩ => ?_)
  · rw [Int.toNat_natCast] at hi
    rw [Int.zero_add]
    walk_at "wr"
    have frow : (fw0 n)[i]? = some ((List.range n).map fun (j : Nat) => if (i : Int) = (j : Int) then some 0 else none) := by
      unfold fw0
      rw [List.getElem?_map, List.getElem?_range hi]; rfl
    refine LcV.rng L' (fun R j H' => Led [] H H' [] ((R, .lst ((((List.range n).map fun (j : Nat) => if (i : Int) = (j : Int) then some (0 : Int) else none).take j).map oV)) :: (D, .lst (rows.map V.ref)) :: tbR rows ((fw0 n).take i)) (fun _ => True)) (fun R H' L' => by simpa using L') (fun R j H' hj L' => ?_) (fun R H' L' => ?_)
    · rw [Int.toNat_natCast] at hj
      rw [Int.zero_add]
      have hb : ((List.range n).map fun (j : Nat) => if (i : Int) = (j : Int) then some (0 : Int) else none)[j]? = some (if (i : Int) = (j : Int) then some 0 else none) := by
        rw [List.getElem?_map, List.getElem?_range hj]; rfl
      walk_at "wr"
      refine IfT.by_ (fun c => ?_) (fun c => ?_)
      · walk_at "wr"
        refine AccV.mk 0 L' rfl (line_lt (by simp; omega)) fun H3 L3 => ?_
        rw [take_more hb, List.map_append, if_pos (of_decide_eq_true c)]
        exact L3
      · walk_at "wr"
        refine AccV.mk 0 L' rfl (line_lt (by simp; omega)) fun H3 L3 => ?_
        rw [take_more hb, List.map_append, if_neg (of_decide_eq_false c)]
        exact L3
    · rw [Int.toNat_natCast, List.take_of_length_le (by simp)] at L'
      refine AccV.mk 1 L' rfl (line_lt (by simp; omega)) fun H3 L3 => ?_
      refine ⟨rows ++ [R], by simp [hr], ?_⟩
      rw [take_more frow, tbR_app (by rw [hr, List.length_take, (fw0_dim n).1]; omega), List.map_append]
      refine L3.perm ?_
      exact ((List.perm_append_comm (l₁ := (D, HO.lst (rows.map V.ref ++ [V.ref R])) :: tbR rows ((fw0 n).take i)) (l₂ := [(R, _)])))
  · rw [Int.toNat_natCast, List.take_of_length_le (by rw [(fw0_dim n).1]; omega)] at L'
    rw [Int.toNat_natCast] at hr
    have hs1 := L'.sqL (by simp) hs
    walk_at "wr"
    refine ForV.lst (K := K) (a := a) (xs := us) (fun m σ H' => ∃ v3 v4 v5, σ = [some (.int n), some (.ref a), some (.ref f), v3, v4, v5, none] ∧ Led [] H H' [] ((f, .lst (rows.map V.ref)) :: tbR rows ((bs.take m).foldl fwB (fw0 n))) (fun _ => True))
      ⟨_, _, _, rfl, by simpa using L'⟩ (fun m σ H' hm ⟨_, _, _, _, L'⟩ => L'.sqL (by simp) hs) (fun m x σ H' hx ⟨v3, v4, v5, e, Lq⟩ => ?_) (fun σ H' ⟨v3, v4, v5, e, Lq⟩ => ?_)
    · subst e
      obtain ⟨b, hb, ta, rfl, hta⟩ := pairAt ht hx
      obtain ⟨i0, i1, j0, j1, ij⟩ := ok b (List.mem_of_getElem? hb)
      have hT := Lq.sqT hta
      rw [take_more hb, List.foldl_append]
      have hd : Dim n ((bs.take m).foldl fwB (fw0 n)) := fwBs_dim _ (fw0_dim n)
      generalize hM : (bs.take m).foldl fwB (fw0 n) = M at *
      obtain ⟨r, hr1, hr2⟩ := tbR_get hr hd (i := b.1.toNat) (by omega)
      have hf : SqL K H' f (rows.map V.ref) := SqL.of (Lq.get 0 rfl)
      have hrr : SqL K H' r ((M.getD b.1.toNat []).map oV) := SqL.of (Lq.get (b.1.toNat + 1) hr2)
      have c1 : atI (rows.map V.ref) b.1 = some (.ref r) := by have := ref_at hr1; rwa [Int.toNat_of_nonneg i0] at this
      have c2 : atI ((M.getD b.1.toNat []).map oV) b.2.1 = some (oV (tat M b.1.toNat b.2.1.toNat)) := by have := row_at hd (i := b.1.toNat) (j := b.2.1.toNat) (by omega) (by omega); rwa [Int.toNat_of_nonneg j0] at this
      have hM' : ∀ {c : Option Int}, tat M b.1.toNat b.2.1.toNat = c → (if better b.2.2 c = true then upd M b.1.toNat b.2.1.toNat (some b.2.2) else M) = [b].foldl fwB M := fun h => by rw [← h]; rfl
      walk_at "wr"
      refine x_ixL hf c1 ?_
      walk_at "wr"
      refine x_ixL hrr c2 ?_
      cases hc : tat M b.1.toNat b.2.1.toNat with
      | none =>
        walk_at "wr"
        refine x_ixL hf c1 ?_
        walk_at "wr"
        refine x_setL (m := b.2.1.toNat) (b.1.toNat + 1) Lq hr2 (ixN_int j0 (by rw [List.length_map, hd.2 _ (by omega)]; omega)) fun H3 L3 => ?_
        walk_at "wr"
        rw [upd_rec (n := n) hr1] at L3
        rw [← hM' hc, if_pos (show better b.2.2 none = true from rfl)]
        exact ⟨_, _, _, rfl, L3⟩
      | some y =>
        walk_at "wr"
        refine x_ixL hf c1 ?_
        walk_at "wr"
        refine x_ixL hrr c2 ?_
        rw [hc]
        walk_at "wr"
        refine IfS.by_ (fun c => ?_) (fun c => ?_)
        · walk_at "wr"
          refine x_ixL hf c1 ?_
          walk_at "wr"
          refine x_setL (m := b.2.1.toNat) (b.1.toNat + 1) Lq hr2 (ixN_int j0 (by rw [List.length_map, hd.2 _ (by omega)]; omega)) fun H3 L3 => ?_
          walk_at "wr"
          rw [upd_rec (n := n) hr1] at L3
          rw [← hM' hc, if_pos (show better b.2.2 (some y) = true from c)]
          exact ⟨_, _, _, rfl, L3⟩
        · walk_at "wr"
          rw [← hM' hc, if_neg (show ¬ better b.2.2 (some y) = true from fun z => by rw [show better b.2.2 (some y) = decide (b.2.2 < y) from rfl, c] at z; cases z)]
          exact ⟨_, _, _, rfl, Lq⟩
    · subst e
      rw [e1, List.take_of_length_le (Nat.le_refl _)] at Lq
      have hd0 : Dim n (bs.foldl fwB (fw0 n)) := fwBs_dim _ (fw0_dim n)
      have hfw : ∀ M, M = (List.range n).foldl (fwK n) (bs.foldl fwB (fw0 n)) → M = fw n bs := fun M h => h
      generalize bs.foldl fwB (fw0 n) = M0 at *
      walk_at "wr"
      refine ForV.rng (fun q σ H' => ∃ v3 v4 v5 v6, σ = [some (.int n), some (.ref a), some (.ref f), v3, v4, v5, v6] ∧ Led [] H H' [] ((f, .lst (rows.map V.ref)) :: tbR rows ((List.range q).foldl (fwK n) M0)) (fun _ => True))
        ⟨_, _, _, _, rfl, by simpa using Lq⟩ (fun q σ H' hq ⟨v3, v4, v5, v6, e, La⟩ => ?_) (fun σ H' ⟨v3, v4, v5, v6, e, La⟩ => ?_)
      · subst e
        rw [Int.toNat_natCast] at hq
        rw [Int.zero_add]
        rw [range_more]
        have hd1 : Dim n ((List.range q).foldl (fwK n) M0) := fold_dim (fun j h => fwK_dim h j) _ hd0
        generalize (List.range q).foldl (fwK n) M0 = M1 at *
        unfold fwK
        walk_at "wr"
        refine ForV.rng (fun i σ H' => ∃ v3 v4, σ = [some (.int n), some (.ref a), some (.ref f), v3, v4, v5, some (.int q)] ∧ Led [] H H' [] ((f, .lst (rows.map V.ref)) :: tbR rows ((List.range i).foldl (fwI n q) M1)) (fun _ => True))
          ⟨_, _, rfl, by simpa using La⟩ (fun i σ H' hi ⟨v3, v4, e, Lb⟩ => ?_) (fun σ H' ⟨v3, v4, e, Lb⟩ => ?_)
        · subst e
          rw [Int.toNat_natCast] at hi
          rw [Int.zero_add, range_more]
          have hd2 : Dim n ((List.range i).foldl (fwI n q) M1) := fold_dim (fun j h => fwI_dim h j) _ hd1
          generalize (List.range i).foldl (fwI n q) M1 = M2 at *
          obtain ⟨r, hr1, hr2⟩ := tbR_get hr hd2 hi
          have hf : SqL K H' f (rows.map V.ref) := SqL.of (Lb.get 0 rfl)
          have hrr : SqL K H' r ((M2.getD i []).map oV) := SqL.of (Lb.get (i + 1) hr2)
          walk_at "wr"
          refine x_ixL hf (ref_at hr1) ?_
          walk_at "wr"
          refine x_ixL hrr (row_at hd2 hi hq) ?_
          unfold fwI
          cases hc : tat M2 i q with
          | none =>
            walk_at "wr"
            exact ⟨_, _, rfl, Lb⟩
          | some x0 =>
            walk_at "wr"
            refine ForV.rng (fun j σ H' => ∃ v4, σ = [some (.int n), some (.ref a), some (.ref f), some (.int i), v4, v5, some (.int q)] ∧ Led [] H H' [] ((f, .lst (rows.map V.ref)) :: tbR rows ((List.range j).foldl (fwJ q i) M2)) (fun _ => True) ∧ ∃ x, tat ((List.range j).foldl (fwJ q i) M2) i q = some x)
              ⟨_, rfl, by simpa using Lb, x0, by simpa using hc⟩ (fun j σ H' hj ⟨v4, e, Lc, hx⟩ => ?_) (fun σ H' ⟨v4, e, Lc, hx⟩ => ?_)
            · subst e
              rw [Int.toNat_natCast] at hj
              rw [Int.zero_add, range_more]
              have hd3 : Dim n ((List.range j).foldl (fwJ q i) M2) := fold_dim (fun j h => fwJ_dim h j) _ hd2
              generalize (List.range j).foldl (fwJ q i) M2 = M3 at *
              obtain ⟨x, hx⟩ := hx
              have keep := fwJ_some hd3 hi j hj hx
              obtain ⟨r3, g1, g2⟩ := tbR_get hr hd3 hi
              rw [hr1] at g1
              cases g1
              obtain ⟨rk, g3, g4⟩ := tbR_get hr hd3 hq
              have hf3 : SqL K H' f (rows.map V.ref) := SqL.of (Lc.get 0 rfl)
              have hr3 : SqL K H' r ((M3.getD i []).map oV) := SqL.of (Lc.get (i + 1) g2)
              have hk3 : SqL K H' rk ((M3.getD q []).map oV) := SqL.of (Lc.get (q + 1) g4)
              have fin : ∀ {H4 : Hp} {M4 : Tb} {v5' : Option V}, M4 = fwJ q i M3 j → Led [] H H4 [] ((f, .lst (rows.map V.ref)) :: tbR rows M4) (fun _ => True) →
                  ∃ v4, [some (.int n), some (.ref a), some (.ref f), some (.int i), some (.int j), v5, some (V.int q)] = [some (.int n), some (.ref a), some (.ref f), some (.int i), v4, v5, some (.int q)] ∧ Led [] H H4 [] ((f, .lst (rows.map V.ref)) :: tbR rows (fwJ q i M3 j)) (fun _ => True) ∧ ∃ x, tat (fwJ q i M3 j) i q = some x := fun e L' => ⟨_, rfl, e ▸ L', keep⟩
              have eJ : fwJ q i M3 j = match tat M3 q j with
                | some b => if better (x + b) (tat M3 i j) = true then upd M3 i j (some (x + b)) else M3
                | none => M3 := by
                unfold fwJ
                rw [hx]
                cases tat M3 q j <;> rfl
              walk_at "wr"
              refine x_ixL hf3 (ref_at g3) ?_
              walk_at "wr"
              refine x_ixL hk3 (row_at hd3 hq hj) ?_
              cases hb : tat M3 q j with
              | none =>
                rw [hb] at eJ
                walk_at "wr"
                exact fin (v5' := none) eJ.symm Lc
              | some b =>
                rw [hb] at eJ
                walk_at "wr"
                refine x_ixL hf3 (ref_at hr1) ?_
                walk_at "wr"
                refine x_ixL hr3 (row_at hd3 hi hj) ?_
                have put : ∀ {D : Ends} {σ : L2.St}, (∀ H4, Led [] H H4 [] ((f, .lst (rows.map V.ref)) :: tbR rows (upd M3 i j (some (x + b)))) (fun _ => True) → D.nx σ H4) → rSetL (.ref r) (.int (j : Int)) (.int (x + b)) H' (fun H4 => D.nx σ H4) := fun hk => by
                  refine x_setL (m := j) (i + 1) Lc g2 (ixN_int (by omega) (by rw [List.length_map, hd3.2 _ hi]; omega)) fun H4 L4 => ?_
                  have L5 := L4
                  rw [upd_rec (n := n) hr1] at L5
                  exact hk H4 L5
                cases hy : tat M3 i j with
                | none =>
                  rw [hy] at eJ
                  walk_at "wr"
                  refine x_ixL hf3 (ref_at hr1) ?_
                  walk_at "wr"
                  refine x_ixL hr3 (row_at hd3 hi hq) ?_
                  walk_at "wr"
                  refine x_ixL hf3 (ref_at g3) ?_
                  walk_at "wr"
                  refine x_ixL hk3 (row_at hd3 hq hj) ?_
                  rw [hx, hb]
                  walk_at "wr"
                  refine x_ixL hf3 (ref_at hr1) ?_
                  walk_at "wr"
                  refine put fun H4 L4 => ?_
                  exact fin (v5' := none) (by rw [eJ]; exact (if_pos (show better (x + b) none = true from rfl)).symm) L4
                | some y =>
                  rw [hy] at eJ
                  walk_at "wr"
                  refine x_ixL hf3 (ref_at hr1) ?_
                  walk_at "wr"
                  refine x_ixL hr3 (row_at hd3 hi hq) ?_
                  walk_at "wr"
                  refine x_ixL hf3 (ref_at g3) ?_
                  walk_at "wr"
                  refine x_ixL hk3 (row_at hd3 hq hj) ?_
                  rw [hx, hb]
                  walk_at "wr"
                  refine x_ixL hf3 (ref_at hr1) ?_
                  walk_at "wr"
                  refine x_ixL hr3 (row_at hd3 hi hj) ?_
                  rw [hy]
                  walk_at "wr"
                  refine IfS.by_ (fun c => ?_) (fun c => ?_)
                  · walk_at "wr"
                    refine x_ixL hf3 (ref_at hr1) ?_
                    walk_at "wr"
                    refine x_ixL hr3 (row_at hd3 hi hq) ?_
                    walk_at "wr"
                    refine x_ixL hf3 (ref_at g3) ?_
                    walk_at "wr"
                    refine x_ixL hk3 (row_at hd3 hq hj) ?_
                    rw [hx, hb]
                    walk_at "wr"
                    refine x_ixL hf3 (ref_at hr1) ?_
                    walk_at "wr"
                    refine put fun H4 L4 => ?_
                    exact fin (v5' := none) (by rw [eJ]; exact (if_pos (show better (x + b) (some y) = true from c)).symm) L4
                  · walk_at "wr"
                    refine fin (v5' := none) (eJ.trans (if_neg (fun z => ?_))).symm Lc
                    rw [show better (x + b) (some y) = decide (x + b < y) from rfl, c] at z
                    cases z
            · subst e
              rw [Int.toNat_natCast] at Lc
              exact ⟨_, _, rfl, Lc⟩
        · subst e
          rw [Int.toNat_natCast] at Lb
          exact ⟨_, _, _, _, rfl, Lb⟩
      · subst e
        rw [Int.toNat_natCast] at La
        have hdf : Dim n ((List.range n).foldl (fwK n) M0) := fold_dim (fun j h => fwK_dim h j) _ hd0
        have hfw' := hfw _ rfl
        generalize (List.range n).foldl (fwK n) M0 = M at *
        have A := fw_all ok
        rw [← hfw'] at A
        have neg_at := fw_below ok
        have free_at := fw_free ok
        have len_at := @fw_lengths n bs ok
        rw [← hfw'] at neg_at free_at len_at
        have dia : ∀ i, i < n → ∃ c, tat M i i = some c := fun i hi => by
          obtain ⟨c, e, _⟩ := A.dia i hi 0 rfl
          exact ⟨c, e⟩
        walk_at "wr"
        refine LcV.rng La (fun D i H' => ∃ ns : List Int, (ns = [] ↔ ∀ j, j < i → ∀ c, tat M j j = some c → ¬ c < 0) ∧ ns.length ≤ i ∧ Led [] H H' [] ((D, .lst (ns.map V.int)) :: (f, .lst (rows.map V.ref)) :: tbR rows M) (fun _ => True))
          (fun D H' L' => ⟨[], by simp, by simp, L'⟩) (fun D i H' hi ⟨ns, h1, h2, L'⟩ => ?_) (fun D H' ⟨ns, h1, h2, L'⟩ => ?_)
        · rw [Int.toNat_natCast] at hi
          rw [Int.zero_add]
          obtain ⟨r, hr1, hr2⟩ := tbR_get hr hdf hi
          have hf : SqL K H' f (rows.map V.ref) := SqL.of (L'.get 1 rfl)
          have hrr : SqL K H' r ((M.getD i []).map oV) := SqL.of (L'.get (i + 2) hr2)
          obtain ⟨c, hc⟩ := dia i hi
          walk_at "wr"
          refine x_ixL hf (ref_at hr1) ?_
          walk_at "wr"
          refine x_ixL hrr (row_at hdf hi hi) ?_
          rw [hc]
          walk_at "wr"
          refine LcI.by_ (fun z => ?_) (fun z => ?_)
          · walk_at "wr"
            refine AccV.mk 0 L' rfl (line_lt (by simp; omega)) fun H3 L3 => ⟨ns ++ [(i : Int)], ?_, by simp; omega, by rw [List.map_append]; exact L3⟩
            have z' := of_decide_eq_true z
            constructor
            · intro e; simp at e
            · intro g; exact absurd z' (g i (by omega) c hc)
          · refine LcI.no ⟨ns, ?_, by omega, L'⟩
            have z' := of_decide_eq_false z
            rw [h1]
            constructor
            · intro g j hj d hd
              by_cases e : j = i
              · subst e; rw [hc] at hd; cases hd; exact z'
              · exact g j (by omega) d hd
            · intro g j hj; exact g j (by omega)
        · rw [Int.toNat_natCast] at h1 h2
          walk_at "wr"
          rename_i p2 H2 Lz
          refine x_neNil (SqL.of (Lz.get 1 rfl)) (SqL.of (Lz.get 0 rfl)) (dpInts ns) (flatInts ns) (by simp; omega) ?_
          walk_at "wr"
          rename_i t H3 Ly
          have em : (!(ns.map V.int).isEmpty) = true ↔ Neg n M := by
            cases ns with
            | nil =>
              simp only [List.map_nil, List.isEmpty_nil, Bool.not_true]
              constructor
              · intro z; cases z
              · rintro ⟨i, c, hi, e, l⟩
                exact absurd l (h1.mp rfl i hi c e)
            | cons x ns =>
              simp only [List.map_cons, List.isEmpty_cons, Bool.not_false, true_iff]
              refine Classical.byContradiction fun hn => ?_
              have : (x :: ns) = [] := h1.mpr fun j hj c e l => hn ⟨j, c, hj, e, l⟩
              cases this
          refine k t f rows M (!(ns.map V.int).isEmpty) H3 Ly.md (Ly.fresh0 0 rfl) (Ly.fresh0 3 rfl) (fun r hr' => ?_) (Ly.get 0 rfl) ⟨Ly.get 3 rfl, ?_⟩ hdf.1 (fun m hm => ?_) (fun hb => neg_at (em.mp hb)) (fun hb => ?_)
          · obtain ⟨i, hi⟩ := List.getElem?_of_mem hr'
            have hin : i < n := by rw [← hr]; exact (List.getElem?_eq_some_iff.mp hi).1
            obtain ⟨r', g1, g2⟩ := tbR_get hr hdf hin
            rw [hi] at g1
            cases g1
            exact Ly.fresh0 (i + 4) g2
          · refine paired_at (by rw [hr, hdf.1]) fun i r m hi hm => ?_
            have hin : i < n := by rw [← hr]; exact (List.getElem?_eq_some_iff.mp hi).1
            obtain ⟨r', g1, g2⟩ := tbR_get hr hdf hin
            rw [hi] at g1
            cases g1
            have := Ly.get (i + 4) g2
            rwa [List.getD_eq_getElem?_getD, hm] at this
          · obtain ⟨i, hi⟩ := List.getElem?_of_mem hm
            have hin : i < n := by rw [← hdf.1]; exact (List.getElem?_eq_some_iff.mp hi).1
            have := hdf.2 i hin
            rwa [List.getD_eq_getElem?_getD, hi] at this
          · have hn : ¬ Neg n M := fun z => by rw [em.mpr z] at hb; cases hb
            exact ⟨free_at hn, fun i j hi hj => len_at hn hi hj⟩
theorem sIx_some {n : Nat} {d : Nat} {i : Int} (h : 0 ≤ i) : HT.sIx n d (some i) = min i.toNat n := by
  unfold HT.sIx
  simp
  omega
theorem cut_to {xs : List V} {i : Int} (h : 0 ≤ i) : cutV xs none (some i) = xs.take i.toNat := by
  unfold cutV
  rw [sIx_some h]
  show (xs.drop 0).take (min i.toNat xs.length - 0) = _
  rw [List.drop_zero, Nat.sub_zero]
  by_cases h2 : i.toNat ≤ xs.length
  · rw [Nat.min_eq_left h2]
  · rw [Nat.min_eq_right (by omega), List.take_of_length_le (Nat.le_refl _), List.take_of_length_le (by omega)]
theorem cut_from {xs : List V} {i : Int} (h : 0 ≤ i) : cutV xs (some i) none = xs.drop i.toNat := by
  unfold cutV
  rw [sIx_some h]
  show (xs.drop (min i.toNat xs.length)).take (xs.length - min i.toNat xs.length) = _
  by_cases h2 : i.toNat ≤ xs.length
  · rw [Nat.min_eq_left h2, List.take_of_length_le (by simp)]
  · rw [Nat.min_eq_right (by omega), List.drop_eq_nil_of_le (Nat.le_refl _), List.drop_eq_nil_of_le (by omega), List.take_nil]
theorem turn_mod {x n : Int} (h0 : 0 ≤ x) (h1 : x < 2 * n) : x % n = if x < n then x else x - n := by
  split
  · exact Int.emod_eq_of_lt h0 (by assumption)
  · have := Int.add_emod_right (x - n) n
    rw [Int.sub_add_cancel] at this
    rw [this]
    exact Int.emod_eq_of_lt (by omega) (by omega)
def Bnds (K : Frag) (n : Int) (us : List V) (H : Hp) : Prop := ∀ u ∈ us, ∃ b, Trp K H u b ∧ Ok n b
theorem stab_bnds {K : Frag} {n : Int} {us : List V} : Stab (Bnds K n us) := fun _ _ g h u hu => by
  obtain ⟨b, h1, h2⟩ := h u hu
  exact ⟨b, trp_grow g h1, h2⟩
theorem bnds_trps {K : Frag} {n : Int} {H : Hp} : ∀ {us : List V}, Bnds K n us H → ∃ bs, Trps K H us bs ∧ ∀ b ∈ bs, Ok n b
  | [], _ => ⟨[], .nil, by simp⟩
  | u :: us, h => by
    obtain ⟨b, h1, h2⟩ := h u List.mem_cons_self
    obtain ⟨bs, h3, h4⟩ := bnds_trps (us := us) fun v hv => h v (List.mem_cons_of_mem _ hv)
    exact ⟨b :: bs, .cons h1 h3, fun c hc => (List.mem_cons.mp hc).elim (fun e => e ▸ h2) (h4 c)⟩
theorem Bnds.app {K : Frag} {n : Int} {us vs : List V} {H : Hp} (h : Bnds K n us H) (g : Bnds K n vs H) : Bnds K n (us ++ vs) H := fun u hu => (List.mem_append.mp hu).elim (h u) (g u)
theorem Bnds.items {K : Frag} {n : Int} {us : List V} {H : Hp} (h : Bnds K n us H) : ∀ u ∈ us, Item K H u := fun u hu => by
  obtain ⟨b, h1, _⟩ := h u hu
  exact .inr ⟨b, h1⟩
theorem BoxOk.step {n m : Nat} {o : HO} (h : BoxOk n o) (l : n ≤ m := by omega) : BoxOk m o := h.more l
theorem IfS.cut {b : Bool} {s1 s2 : TS} {D : Ends} {σ : L2.St} {H : Hp} (M : L2.St → Hp → Prop) (hr : ∀ σ' H', M σ' H' → D.nx σ' H') (hy : ∀ N : L2.St → Hp → Prop, (∀ σ' H', M σ' H' → N σ' H') → b = true → s1 { D with nx := N } σ H)
    (hn : ∀ N : L2.St → Hp → Prop, (∀ σ' H', M σ' H' → N σ' H') → b = false → s2 { D with nx := N } σ H) : IfS b s1 s2 D σ H := IfS.by_ (hy D.nx hr) (hn D.nx hr)
def unI : V → Int
  | .int i => i
  | _ => 0
theorem perm_ints {ys : List V} {js : List Int} (h : ys.Perm (js.map V.int)) : ∃ ks : List Int, ys = ks.map V.int ∧ ks.Perm js := by
  refine ⟨ys.map unI, ?_, ?_⟩
  · rw [List.map_map]
    refine (List.map_id ys).symm.trans (List.map_congr_left fun y hy => ?_)
    obtain ⟨i, _, rfl⟩ := List.mem_map.mp (h.subset hy)
    rfl
  · have := h.map unI
    rw [List.map_map] at this
    have e : js.map (unI ∘ V.int) = js := (List.map_congr_left fun _ _ => rfl).trans (List.map_id js)
    rwa [e] at this
theorem rgV_ints (n : Nat) : rgV 0 n = ((List.range n).map fun (i : Nat) => (i : Int)).map V.int := by
  unfold rgV
  rw [List.map_map, Int.sub_zero, Int.toNat_natCast]
  refine List.map_congr_left fun i _ => ?_
  show V.int (0 + (i : Nat)) = V.int (i : Nat)
  rw [Int.zero_add]
theorem range_nd (n : Nat) : ((List.range n).map fun (i : Nat) => (i : Int)).Nodup := by
  refine List.pairwise_map.mpr (List.nodup_range.imp fun h e => h (by omega))
theorem len_law_bounds {K : Frag} {ad : Ad} : ∀ vs H Q E, sp_law_bounds K ad vs H Q E → vs.length = 3 := fun vs H Q E h => by
  obtain ⟨_, _, _, _, _, rfl, _⟩ := h; rfl
theorem pure_law_bounds {K : Frag} {mg : Str → Option Value} {ad : Ad} (T : Txt K mg ad) (vs : List V) (H : Hp) (Q : VK) (E : XK) (h : sp_law_bounds K ad vs H Q E) : t_law_bounds K ad { nx := fun _ H' => Q .non H', rt := Q } (L2.start ["box", "many", "rings", "places", "found", "k", "i", "j", "order", "sums"] vs) H := by
  obtain ⟨b, o, m, n, rings, rfl, hb, bo, hm, n0, n1, hr, k⟩ := h
  have L := Led.start1 hb
  unfold t_law_bounds
  walk_at "wr"
  refine IfS.by_ (fun c => ?_) (fun c => ?_)
  · walk_at "wr"
    rename_i p1 H1 L1
    exact k p1 [] [] o H1 (L1.fresh1 0 1 rfl rfl (by decide)) L1.md (L1.get 1 rfl) (bo.more (by omega)) (L1.get 0 rfl) .nil (by simp) (by simp)
  have n2 : 1 < n := by have := of_decide_eq_false c; omega
  walk_at "wr"
  refine LcV.rng L (fun D i H' => ∃ (ns : List Int) (o' : HO), ns.length = i ∧ Led [b] H H' [] [(D, .lst (ns.map V.int)), (b, o')] (fun _ => True) ∧ BoxOk (m + i) o') (fun D H' L' => ⟨[], o, rfl, L', bo⟩) (fun D i H' hi ⟨ns, o', h1, L', bo'⟩ => ?_) (fun P H' ⟨ns, o', h1, L', bo'⟩ => ?_)
  · rw [Int.toNat_natCast] at hi
    walk_at "wr"
    refine ⟨b, o', m + i, 40, rfl, L'.get 1 rfl, bo', by omega, by omega, by omega, fun r o2 H2 m2 hb2 bo2 r0 r1 => ?_⟩
    have La := L'.change (i := 1) rfl m2 hb2
    refine AccV.mk 0 La rfl (line_lt (by simp; omega)) fun H3 Lb => ⟨ns ++ [r], o2, by simp [h1], by rw [List.map_append]; exact Lb, bo2⟩
  rw [Int.toNat_natCast] at h1 bo'
  walk_at "wr"
  rename_i pF H1 L1
  refine ⟨b, o', m + n, 2 * n + 3, rfl, L1.get 2 rfl, bo', by omega, by omega, by omega, fun many o2 H2 m2 hb2 bo2 r0 r1 => ?_⟩
  have La := (L1.change (i := 2) rfl m2 hb2).phi (stab_bnds (K := K) (n := n) (us := [])) (fun _ h => nomatch h)
  clear L L1 L'
  walk_at "wr"
  refine ForV.rng (fun q σ H' => ∃ (us : List V) (o' : HO) (v5 v6 v7 : Option V), σ = [some (.ref b), some (.int n), some (.bl rings), some (.ref P), some (.ref pF), v5, v6, v7, none, none] ∧ us.length = q ∧ Led [b] H H' [] [(pF, .lst us), (P, .lst (ns.map V.int)), (b, o')] (Bnds K n us) ∧ BoxOk (m + n + 1 + 3 * q) o')
    ⟨[], o2, _, _, _, rfl, rfl, La, bo2⟩ (fun q σ H' hq ⟨us, o3, v5, v6, v7, e, hus, Lb, bo3⟩ => ?_) (fun σ H' ⟨us, o3, v5, v6, v7, e, hus, Lb, bo3⟩ => ?_)
  · subst e
    walk_at "wr"
    refine ⟨b, o3, m + n + 1 + 3 * q, n, rfl, Lb.get 2 rfl, bo3, by omega, by omega, by omega, fun i o4 H4 m4 hb4 bo4 i0 i1 => ?_⟩
    have Lc := Lb.change (i := 2) rfl m4 hb4
    clear Lb
    walk_at "wr"
    refine ⟨b, o4, _, n - 1, rfl, Lc.get 2 rfl, bo4, by omega, by omega, by omega, fun r o5 H5 m5 hb5 bo5 r2 r3 => ?_⟩
    have Ld := Lc.change (i := 2) rfl m5 hb5
    clear Lc
    walk_at "wr"
    obtain ⟨j, hj⟩ : ∃ j, (i + 1 + r) % (n : Int) = j := ⟨_, rfl⟩
    rw [hj]
    rw [turn_mod (by omega) (by omega)] at hj
    have j0 : 0 ≤ j ∧ j < n ∧ i ≠ j := by split at hj <;> omega
    have hP : SqL K H5 P (ns.map V.int) := SqL.of (Ld.get 1 rfl)
    obtain ⟨x, hx⟩ : ∃ x, atI (ns.map V.int) i = some (.int x) := ⟨ns[i.toNat]'(by omega), atI_int i0 (by rw [List.getElem?_map, List.getElem?_eq_getElem (by omega)]; rfl)⟩
    obtain ⟨y, hy⟩ : ∃ y, atI (ns.map V.int) j = some (.int y) := ⟨ns[j.toNat]'(by omega), atI_int j0.1 (by rw [List.getElem?_map, List.getElem?_eq_getElem (by omega)]; rfl)⟩
    walk_at "wr"
    refine x_ixL hP hy ?_
    walk_at "wr"
    refine x_ixL hP hx ?_
    walk_at "wr"
    refine ⟨b, o5, _, 5, rfl, Ld.get 2 rfl, bo5, by omega, by omega, by omega, fun s o6 H6 m6 hb6 bo6 s0 s1 => ?_⟩
    have Le := Ld.change (i := 2) rfl m6 hb6
    clear Ld
    walk_at "wr"
    rename_i pt H7 Lf H8 Lg
    refine ⟨us ++ [.ref pt], o6, _, _, _, rfl, by simp [hus], (Lg.phi stab_bnds (Lg.ph.app fun u hu => ?_)).sub (List.sublist_cons_self _ _), bo6.more (by omega)⟩
    obtain rfl : u = .ref pt := by simpa using hu
    exact ⟨(i, j, y - x + s), ⟨pt, rfl, SqT.of (Lg.get 0 rfl)⟩, ⟨i0, i1, j0.1, j0.2.1, j0.2.2⟩⟩
  subst e
  have hq : us.length ≤ 63 := by omega
  have bo4 : BoxOk (m + 300) o3 := bo3.more (by omega)
  clear La bo2 bo3 bo'
  walk_at "wr"
  refine ⟨b, o3, m + 300, 2, rfl, Lb.get 2 rfl, bo4, by omega, by omega, by omega, fun r o5 H5 m5 hb5 bo5 r2 r3 => ?_⟩
  have Lc := Lb.change (i := 2) rfl m5 hb5
  clear Lb
  walk_at "wr"
  have hP0 : ∀ {H' : Hp} {i : Int}, 0 ≤ i → i < n → ∃ x, atI (ns.map V.int) i = some (.int x) := fun {H' i} h0 h1 => ⟨ns[i.toNat]'(by omega), atI_int h0 (by rw [List.getElem?_map, List.getElem?_eq_getElem (by omega)]; rfl)⟩
  refine IfS.cut (fun σ' H' => ∃ us o' v5, σ' = [some (.ref b), some (.int n), some (.bl rings), some (.ref P), some (.ref pF), v5, v6, v7, none, none] ∧ us.length ≤ 100 ∧ Led [b] H H' [] [(pF, .lst us), (P, .lst (ns.map V.int)), (b, o')] (Bnds K n us) ∧ BoxOk (m + 400) o')
    (fun σ' H6 ⟨us, o6, v5, e, hus, Ld, bo6⟩ => ?_) (fun N rest c => ?_) (fun N rest c => ?_)
  rotate_left
  · walk_at "wr"
    refine LcV.rng Lc (fun D q H' => ∃ ws o', Led [b] H H' [] [(D, .lst ws), (pF, .lst us), (P, .lst (ns.map V.int)), (b, o')] (fun H => Bnds K n us H ∧ Bnds K n ws H) ∧ ws.length = q ∧ BoxOk (m + 301 + q) o') (fun D H' L' => ⟨[], o5, L'.add stab_bnds (fun _ h => nomatch h), rfl, bo5⟩) (fun D q H' hq ⟨ws, o6, L', hw, bo6⟩ => ?_) (fun D H' ⟨ws, o6, L', hw, bo6⟩ => ?_)
    · have hP : SqL K H' P (ns.map V.int) := SqL.of (L'.get 2 rfl)
      obtain ⟨x, hx⟩ := hP0 (H' := H') (i := 0) (by omega) (by omega)
      obtain ⟨y, hy⟩ := hP0 (H' := H') (i := 1 + (q : Int)) (by omega) (by omega)
      walk_at "wr"
      refine x_ixL hP hx ?_
      walk_at "wr"
      refine x_ixL hP hy ?_
      walk_at "wr"
      refine ⟨b, o6, _, 9, rfl, L'.get 3 rfl, bo6, by omega, by omega, by omega, fun s o7 H6 m6 hb6 bo7 s0 s1 => ?_⟩
      have La := L'.change (i := 3) rfl m6 hb6
      walk_at "wr"
      rename_i pt H7 Lb
      refine AccV.mk 1 Lb rfl (line_lt (by omega)) fun H8 Ld => ⟨ws ++ [.ref pt], o7, ?_, by simp [hw], bo7⟩
      refine (Ld.phi (stab_and stab_bnds stab_bnds) ⟨Ld.ph.1, Ld.ph.2.app fun u hu => ?_⟩).sub (List.sublist_cons_self _ _)
      obtain rfl : u = .ref pt := by simpa using hu
      exact ⟨(1 + (q : Int), 0, x - y + s), ⟨pt, rfl, SqT.of (Ld.get 0 rfl)⟩, ⟨by show 0 ≤ 1 + (q : Int); omega, by show 1 + (q : Int) < n; omega, Int.le_refl 0, by show (0 : Int) < n; omega, by show 1 + (q : Int) ≠ 0; omega⟩⟩
    · walk_at "wr"
      refine x_ext 1 L' rfl (L'.get 0 rfl) (line_big (by omega)) fun H7 La => ?_
      walk_at "wr"
      refine rest _ _ ⟨us ++ ws, o6, _, rfl, by simp; omega, (La.phi stab_bnds (La.ph.1.app La.ph.2)).sub (List.sublist_cons_self _ _), bo6.more (by omega)⟩
  · walk_at "wr"
    exact rest _ _ ⟨us, o5, _, rfl, by omega, Lc, bo5.more (by omega)⟩
  subst e
  clear Lc bo5 bo4
  walk_at "wr"
  refine IfS.cut (fun σ' H' => ∃ us o' v5 v8 v9, σ' = [some (.ref b), some (.int n), some (.bl rings), some (.ref P), some (.ref pF), v5, v6, v7, v8, v9] ∧ us.length ≤ 200 ∧ Led [b] H H' [] [(pF, .lst us), (P, .lst (ns.map V.int)), (b, o')] (Bnds K n us) ∧ BoxOk (m + 2000) o')
    (fun σ' H7 ⟨us, o7, v5, v8, v9, e, hus, Ld, bo6⟩ => ?_) (fun N rest c => ?_) (fun N rest c => ?_)
  rotate_left
  · walk_at "wr"
    refine x_newRg Ld ⟨by omega, by omega, by omega, by omega, by omega⟩ fun pR H7 Le => ?_
    walk_at "wr"
    refine ⟨b, o6, _, pR, rgV 0 n, rfl, Le.get 3 rfl, bo6, by omega, SqL.of (Le.get 0 rfl), Le.ne 0 3 rfl rfl (by decide), fun x hx => ?_, by rw [rgV_length]; omega, fun p2 ys o7 H8 hp2 m8 hys hb8 bo7 pm => ?_⟩
    · rw [rgV_ints] at hx
      obtain ⟨i, _, rfl⟩ := List.mem_map.mp hx
      exact .inl ⟨i, rfl⟩
    have Lf := Le.gainC (i := 3) rfl m8 hb8 hp2 hys
    rw [rgV_ints] at pm
    obtain ⟨js, rfl, pj⟩ := perm_ints pm
    have jn : js.Nodup := pj.symm.nodup (range_nd n)
    have jl : js.length = n := by rw [pj.length_eq]; simp
    have jr : ∀ j ∈ js, 0 ≤ j ∧ j < n := fun j hj => by
      obtain ⟨i, hi, rfl⟩ := List.mem_map.mp (pj.subset hj)
      have := List.mem_range.mp hi
      omega
    walk_at "wr"
    refine ⟨b, o7, _, n - 1, rfl, Lf.get 4 rfl, bo7, by omega, by omega, by omega, fun r o8 H9 m9 hb9 bo8 r0 r1 => ?_⟩
    have Lg := Lf.change (i := 4) rfl m9 hb9
    clear Le Lf
    walk_at "wr"
    rename_i pO H10 Lh
    rw [cut_to (by omega)] at Lh
    rw [← List.map_take] at Lh
    obtain ⟨os, hos⟩ : ∃ os, js.take (2 + r).toNat = os := ⟨_, rfl⟩
    rw [hos] at Lh
    have on : os.Nodup := by rw [← hos]; exact jn.sublist (List.take_sublist _ _)
    have ol : os.length = (2 + r).toNat := by rw [← hos, List.length_take]; omega
    have or' : ∀ j ∈ os, 0 ≤ j ∧ j < n := fun j hj => jr j (by rw [← hos] at hj; exact List.mem_of_mem_take hj)
    replace Lh := Lh.sub (ls' := [(pO, .lst (os.map V.int)), (pF, .lst us), (P, .lst (ns.map V.int)), (b, o8)]) (by exact .cons₂ _ (.cons _ (.cons _ (.cons₂ _ (.cons₂ _ (.cons₂ _ .slnil))))))
    refine LcV.lst Lh (fun D q H' => ∃ (ss : List Int) (o' : HO), Led [b] H H' [] [(D, .lst (ss.map V.int)), (pO, .lst (os.map V.int)), (pF, .lst us), (P, .lst (ns.map V.int)), (b, o')] (Bnds K n us) ∧ ss.length = q ∧ BoxOk (m + 1500 + q) o')
      (fun D H' L' => ⟨[], o8, L', rfl, bo8.more (by omega)⟩) (fun D q H' hq ⟨ss, o', L', _, _⟩ => SqL.of (L'.get 1 rfl)) (fun D q x H' hx ⟨ss, o9, L', hss, bo9⟩ => ?_) (fun D H' ⟨ss, o9, L', hss, bo9⟩ => ?_)
    · have hq := (List.getElem?_eq_some_iff.mp hx).1
      rw [List.length_map] at hq
      walk_at "wr"
      refine ⟨b, o9, _, 9, rfl, L'.get 4 rfl, bo9, by omega, by omega, by omega, fun s o10 H11 m11 hb11 bo10 s0 s1 => ?_⟩
      have La := L'.change (i := 4) rfl m11 hb11
      walk_at "wr"
      refine AccV.mk 0 La rfl (line_lt (by simp; omega)) fun H12 Lb => ⟨ss ++ [s - 4], o10, by rw [List.map_append]; exact Lb, by simp [hss], bo10⟩
    rw [List.length_map] at hss bo9
    walk_at "wr"
    refine ⟨b, o9, _, 3, rfl, L'.get 4 rfl, bo9, by omega, by omega, by omega, fun s o10 H11 m11 hb11 bo10 s0 s1 => ?_⟩
    have La := L'.change (i := 4) rfl m11 hb11
    clear L' Lh Lg
    walk_at "wr"
    rename_i pS H12 Lb
    rw [cut_from (by omega), ← List.map_drop] at Lb
    refine x_sum (SqL.of (Lb.get 0 rfl)) ?_
    walk_at "wr"
    refine x_setL (m := 0) 1 Lb rfl (ixN_int (by omega) (by simp; omega)) fun H13 Lc => ?_
    obtain ⟨s2, hs2⟩ : ∃ s2, ss.set 0 (-1 - s - (ss.drop (1 : Int).toNat).sum) = s2 := ⟨_, rfl⟩
    have hl2 : s2.length = os.length := by rw [← hs2, List.length_set, hss]
    have e2 : (ss.map V.int).set 0 (V.int (-1 - s - (ss.drop (1 : Int).toNat).sum)) = s2.map V.int := by rw [← List.map_set, hs2]
    rw [e2] at Lc
    replace Lc := Lc.sub (ls' := [(D, .lst (s2.map V.int)), (pO, .lst (os.map V.int)), (pF, .lst us), (P, .lst (ns.map V.int)), (b, o10)]) (by exact .cons _ (List.Sublist.refl _))
    iterate 8 walk_at "wx"
    refine x_cb ?_
    refine x_tcons ?_
    refine x_var rfl ?_
    refine x_tnil ?_
    refine x_lenL (SqL.of (Lc.get 1 rfl)) ?_
    refine x_tnil ?_
    have lb : ((os.map V.int).length : Int) ≤ 100 := by rw [List.length_map]; omega
    have lb0 : 0 ≤ ((os.map V.int).length : Int) := by omega
    have key : ∀ x : Int, 0 ≤ x → x ≤ 100 → -(2 ^ 62) ≤ x ∧ x < 2 ^ 62 := fun x h0 h1 => by omega
    refine Rng1V.mk (key _ lb0 lb).1 (key _ lb0 lb).2 ?_
    refine LcV.rng Lc (fun D2 q H' => ∃ ws, Led [b] H H' [] [(D2, .lst ws), (D, .lst (s2.map V.int)), (pO, .lst (os.map V.int)), (pF, .lst us), (P, .lst (ns.map V.int)), (b, o10)] (fun H => Bnds K n us H ∧ Bnds K n ws H) ∧ ws.length = q) (fun D H' L' => ⟨[], L'.add stab_bnds (fun _ h => nomatch h), rfl⟩) (fun D2 q H' hq ⟨ws, L', hw⟩ => ?_) (fun D2 H' ⟨ws, L', hw⟩ => ?_)
    · rw [List.length_map, Int.toNat_natCast] at hq
      rw [Int.zero_add]
      have hO : SqL K H' pO (os.map V.int) := SqL.of (L'.get 2 rfl)
      have hD : SqL K H' D (s2.map V.int) := SqL.of (L'.get 1 rfl)
      have q1 : os[q]? = some (os[q]'hq) := List.getElem?_eq_getElem hq
      have q2 : (q + 1) % os.length < os.length := Nat.mod_lt _ (by omega)
      have q3 : os[(q + 1) % os.length]? = some (os[(q + 1) % os.length]'q2) := List.getElem?_eq_getElem q2
      generalize os[q]'hq = i at q1
      generalize os[(q + 1) % os.length]'q2 = j at q3
      have ij : i ≠ j := fun e => by
        subst e
        have : q = (q + 1) % os.length := by
          obtain ⟨_, e1⟩ := List.getElem?_eq_some_iff.mp q1
          obtain ⟨_, e2⟩ := List.getElem?_eq_some_iff.mp q3
          exact (List.getElem_inj on).mp (e1.trans e2.symm)
        by_cases h : q + 1 < os.length
        · rw [Nat.mod_eq_of_lt h] at this; omega
        · rw [show q + 1 = os.length by omega, Nat.mod_self] at this; omega
      have ir := or' i (List.mem_of_getElem? q1)
      have jr' := or' j (List.mem_of_getElem? q3)
      have a1 : atI (os.map V.int) (q : Int) = some (.int i) := atI_nat (by rw [List.getElem?_map, q1]; rfl)
      have a2 : atI (os.map V.int) (((q : Int) + 1) % ((os.map V.int).length : Int)) = some (.int j) := by
        rw [List.length_map, show (((q : Int) + 1) % (os.length : Int)) = ((q + 1) % os.length : Nat) by simp]
        exact atI_nat (by rw [List.getElem?_map, q3]; rfl)
      obtain ⟨x, a3⟩ : ∃ x, atI (s2.map V.int) (q : Int) = some (.int x) := by
        exact ⟨_, atI_nat (by rw [List.getElem?_map, List.getElem?_eq_getElem (by omega)]; rfl)⟩
      walk_at "wr"
      refine x_ixL hO a1 ?_
      walk_at "wr"
      refine x_I (by rw [List.length_map]; omega) ?_
      refine x_ixL hO a2 ?_
      walk_at "wr"
      refine x_ixL hD a3 ?_
      walk_at "wr"
      rename_i pt H15 Le
      refine AccV.mk 1 Le rfl (line_lt (by omega)) fun H16 Lf => ⟨ws ++ [.ref pt], ?_, by simp [hw]⟩
      refine (Lf.phi (stab_and stab_bnds stab_bnds) ⟨Lf.ph.1, Lf.ph.2.app fun u hu => ?_⟩).sub (List.sublist_cons_self _ _)
      obtain rfl : u = .ref pt := by simpa using hu
      exact ⟨(i, j, x), ⟨pt, rfl, SqT.of (Lf.get 0 rfl)⟩, ⟨ir.1, ir.2, jr'.1, jr'.2, ij⟩⟩
    · rw [List.length_map, Int.toNat_natCast] at hw
      walk_at "wr"
      refine x_ext 3 L' rfl (L'.get 0 rfl) (line_big (by omega)) fun H17 Lg => ?_
      walk_at "wr"
      exact rest _ _ ⟨us ++ ws, o10, _, _, _, rfl, by simp; omega, (Lg.phi stab_bnds (Lg.ph.1.app Lg.ph.2)).sub (by exact .cons _ (.cons _ (.cons _ (List.Sublist.refl _)))), bo10.more (by omega)⟩
  · walk_at "wr"
    exact rest _ _ ⟨us, o6, _, _, _, rfl, by omega, Ld, bo6.more (by omega)⟩
  subst e
  walk_at "wr"
  refine ⟨b, o7, _, pF, us, rfl, Ld.get 2 rfl, bo6, by omega, SqL.of (Ld.get 0 rfl), Ld.ne 0 2 rfl rfl (by decide), Ld.ph.items, by omega, fun p2 ys o8 H8 hp2 m8 hys hb8 bo8 pm => ?_⟩
  have Le := Ld.gainC (i := 2) rfl m8 hb8 hp2 hys
  walk_at "wr"
  rename_i p3 H9 Lf
  rw [cut_to (by omega)] at Lf
  have bn : Bnds K n (ys.take (60 : Int).toNat) H9 := fun u hu => Lf.ph u (pm.subset (List.mem_of_mem_take hu))
  obtain ⟨bs, h1, h2⟩ := bnds_trps bn
  exact k p3 _ bs o8 H9 (Lf.fresh1 0 4 rfl rfl (by decide)) Lf.md (Lf.get 4 rfl) (bo8.more (by omega)) (Lf.get 0 rfl) h1 h2 (by rw [List.length_take]; exact Nat.min_le_left _ _)
theorem Led.lose {W : List Addr} {H0 H H' : Hp} {rs ls : Rec} {Φ : Hp → Prop} {b : Addr} {o : HO} (L : Led W H0 H rs (ls ++ [(b, o)]) Φ) (m : Mod [b] H H') : Led W H0 H' rs ls Φ := by
  have hm : (b, o) ∈ ls ++ [(b, o)] := List.mem_append_right _ (List.mem_singleton.mpr rfl)
  have nb : ∀ q ∈ ls, q.1 ≠ b := fun q hq e => by
    have := L.ndl
    rw [List.map_append, List.nodup_append] at this
    exact this.2.2 q.1 (List.mem_map.mpr ⟨q, hq, rfl⟩) b (by simp) e
  refine ⟨⟨fun a u n e => ?_, L.md.grow.trans m.grow⟩, fun q hq => m.keep _ _ (fun z => L.nrl q hq _ hm (by simpa using z)) (L.rd q hq), fun q hq => m.keep _ _ (fun z => nb q hq (by simpa using z)) (L.at_ q (List.mem_append_left _ hq)), ?_, fun q hq r hr => L.nrl q hq r (List.mem_append_left _ hr), fun q hq => L.new q (List.mem_append_left _ hq), L.st, L.st _ _ m.grow L.ph⟩
  · refine m.keep a u (fun z => ?_) (L.md.keep a u n e)
    have z' : a = b := by simpa using z
    subst z'
    rcases L.new _ hm with h | h
    · exact n h
    · rw [h] at e; cases e
  · have := L.ndl
    rw [List.map_append, List.nodup_append] at this
    exact this.1
def OwnOk (H : Hp) (x : V) (hd : Rec) : Prop := (own1 x = [] ∧ hd = []) ∨ (∃ p o, x = .ref p ∧ hd = [(p, o)]) ∨ ∃ t xs, x = .ref t ∧ H t = some (.tup xs) ∧ hd = []
theorem OwnOk.grow {H H' : Hp} {x : V} {hd : Rec} (h : OwnOk H x hd) (g : Grow H H') : OwnOk H' x hd := h.imp id (Or.imp id fun ⟨t, xs, a, b, c⟩ => ⟨t, xs, a, g.1 _ _ b, c⟩)
theorem Led.own {W : List Addr} {H0 H H' : Hp} {rs ls hd : Rec} {Φ : Hp → Prop} {x : V} (L : Led W H0 H rs (ls ++ hd) Φ) (ok : OwnOk H x hd) (m : Mod (own1 x) H H') : Led W H0 H' rs ls Φ := by
  rcases ok with ⟨e, rfl⟩ | ⟨p, o, rfl, rfl⟩ | ⟨t, xs, rfl, ht, rfl⟩
  · rw [e] at m
    rw [List.append_nil] at L
    exact L.stay m
  · exact Led.lose L m
  · rw [List.append_nil] at L
    refine L.stay ⟨fun a u _ e => ?_, m.grow⟩
    by_cases ha : a = t
    · subst ha
      rw [ht] at e
      cases e
      exact m.grow.1 _ _ ht
    · exact m.keep a u (by simpa [own1] using ha) e
def Good (K : Frag) (n : Int) (H : Hp) (x : V) : Prop := (own1 x = [] ∧ ∀ H' : Hp, Odd K 0 x H' ∧ NoPt K H' n x) ∨ (∃ (a : Addr) (ns : List Int), x = .ref a ∧ H a = some (.lst (ns.map V.int)) ∧ ns.length ≤ 10) ∨ ∃ (a : Addr) (ns : List Int), x = .ref a ∧ H a = some (.tup (ns.map V.int)) ∧ ns.length ≤ 10
theorem copy_ok {K : Frag} {ad : Ad} {n : Int} {W : List Addr} {H0 H : Hp} {rs ls : Rec} {Φ : Hp → Prop} {x : V} {Q : VK} {E : XK} (L : Led W H0 H rs ls Φ) (g : Good K n H x)
    (k : ∀ hd y H', OwnOk H' y hd → (∀ H'', (∀ q ∈ hd, H'' q.1 = some q.2) → Grow H' H'' → Odd K 0 y H'' ∧ NoPt K H'' n y) → Led W H0 H' rs (ls ++ hd) Φ → Mod [] H H' → Q y H') : sp_law_copy K ad [x] H Q E := by
  rcases g with ⟨e, od⟩ | ⟨a, ns, rfl, ha, hl⟩ | ⟨a, ns, rfl, ha, hl⟩
  · refine ⟨x, rfl, (od H).1, fun _ => k [] x H (.inl ⟨e, rfl⟩) (fun H'' _ _ => od H'') (by rw [List.append_nil]; exact L) (Mod.refl _ _), fun a ns ex => ?_, fun a ns ex => ?_⟩
    · subst ex; cases e
    · subst ex; cases e
  · refine ⟨_, rfl, .lst ha hl, fun e => (nomatch e), fun a' ns' ex ha' p H' hp m hp' => ?_, fun a' ns' ex ha' => ?_⟩
    · cases ex
      rw [ha] at ha'
      have e : ns.map V.int = ns'.map V.int := HO.lst.inj (Option.some.inj ha')
      rw [← e] at hp'
      refine k [(p, .lst (ns.map V.int))] (.ref p) H' (.inr (.inl ⟨p, _, rfl, rfl⟩)) (fun H'' h _ => ?_) ((L.gain hp m hp').perm (List.perm_append_comm (l₁ := ls) (l₂ := [(p, _)]))) m
      have h' := h _ (List.mem_singleton.mpr rfl)
      exact ⟨.lst h' hl, .inr ⟨"list", tyL (SqL.of h'), by decide, by decide⟩⟩
    · cases ex
      rw [ha] at ha'
      cases ha'
  · refine ⟨_, rfl, .tup ha hl, fun e => (nomatch e), fun a' ns' ex ha' => ?_, fun a' ns' ex ht => ?_⟩
    · cases ex
      rw [ha] at ha'
      cases ha'
    · exact k [] _ H (.inr (.inr ⟨a, _, rfl, ha, rfl⟩)) (fun H'' _ g => ⟨.tup (g.1 _ _ ha) hl, .inr ⟨"tuple", tyT (SqT.of (K := K) (g.1 _ _ ha)), by decide, by decide⟩⟩) (by rw [List.append_nil]; exact L) (Mod.refl _ _)
theorem len_law_bad_right {K : Frag} {ad : Ad} : ∀ vs H Q E, sp_law_bad_right K ad vs H Q E → vs.length = 4 := fun vs H Q E h => by
  obtain ⟨_, _, _, _, _, _, _, rfl, _⟩ := h; rfl
theorem pure_law_bad_right {K : Frag} {mg : Str → Option Value} {ad : Ad} (T : Txt K mg ad) (vs : List V) (H : Hp) (Q : VK) (E : XK) (h : sp_law_bad_right K ad vs H Q E) : t_law_bad_right K ad { nx := fun _ H' => Q .non H', rt := Q } (L2.start ["box", "plan", "many", "way", "odd", "first", "second"] vs) H := by
  obtain ⟨b, p, o, m, n, bs, way, rfl, hb, bo, hm, pa, ok, n0, n1, k⟩ := h
  have L := Led.start1 hb
  have pk : ∀ {H' : Hp}, Mod [b] H H' → PlanAt K ad H' p n bs := fun {H'} md => by
    have hp := pa
    obtain ⟨dx, t, us, h1, _⟩ := hp
    refine pa.keep (fun o' e => md.keep p o' (fun z => ?_) e) md.grow
    have z' : p = b := by simpa using z
    subst z'
    rw [h1] at hb
    obtain ⟨_, _, _, _, rfl, _⟩ := bo
    cases hb
  unfold t_law_bad_right
  walk_at "wr"
  rename_i p0 H1 L1 t0 H2 Lb p4 H3 Lc
  have good : ∀ r : Int, 0 ≤ r → r < 8 → ∃ x, atI [.int n, .int (-1), .bl true, .non, .str "0", .ref p0, .ref t0, .int 99] r = some x ∧ ∀ H' : Hp, H' p0 = some (.lst [.int 0]) → H' t0 = some (.tup [.int 0]) → Good K n H' x := fun r r0 r1 => by
    have : r = 0 ∨ r = 1 ∨ r = 2 ∨ r = 3 ∨ r = 4 ∨ r = 5 ∨ r = 6 ∨ r = 7 := by omega
    rcases this with rfl | rfl | rfl | rfl | rfl | rfl | rfl | rfl
    · exact ⟨_, rfl, fun H' _ _ => .inl ⟨rfl, fun _ => ⟨.int _, .inl ⟨_, rfl, by omega⟩⟩⟩⟩
    · exact ⟨_, rfl, fun H' _ _ => .inl ⟨rfl, fun _ => ⟨.int _, .inl ⟨_, rfl, by omega⟩⟩⟩⟩
    · exact ⟨_, rfl, fun H' _ _ => .inl ⟨rfl, fun _ => ⟨.bl _, .inr ⟨"bool", .base (.bl _), by decide, by decide⟩⟩⟩⟩
    · exact ⟨_, rfl, fun H' _ _ => .inl ⟨rfl, fun _ => ⟨.non, .inr ⟨"NoneType", .base .non, by decide, by decide⟩⟩⟩⟩
    · exact ⟨_, rfl, fun H' _ _ => .inl ⟨rfl, fun _ => ⟨.str (by decide +kernel) (by decide +kernel), .inr ⟨"str", .base (.str _), by decide, by decide⟩⟩⟩⟩
    · exact ⟨_, rfl, fun H' h _ => .inr (.inl ⟨p0, [0], rfl, h, by decide⟩)⟩
    · exact ⟨_, rfl, fun H' _ h => .inr (.inr ⟨t0, [0], rfl, h, by decide⟩)⟩
    · exact ⟨_, rfl, fun H' _ _ => .inl ⟨rfl, fun _ => ⟨.int _, .inl ⟨_, rfl, by omega⟩⟩⟩⟩
  refine ⟨b, o, m, 8, rfl, Lc.get 3 rfl, bo, by omega, by omega, by omega, fun r o2 H4 m4 hb4 bo2 r0 r1 => ?_⟩
  have Ld := Lc.change (i := 3) rfl m4 hb4
  clear L L1 Lb Lc
  obtain ⟨x, hx, gx⟩ := good r r0 r1
  have h4 : SqL K H4 p4 _ := SqL.of (Ld.get 0 rfl)
  refine x_ixL h4 hx ?_
  walk_at "wr"
  refine ⟨b, o2, m + 1, 8, rfl, Ld.get 3 rfl, bo2, by omega, by omega, by omega, fun r' o3 H5 m5 hb5 bo3 r2 r3 => ?_⟩
  have Le := Ld.change (i := 3) rfl m5 hb5
  clear Ld
  obtain ⟨y, hy, gy⟩ := good r' r2 r3
  have h5 : SqL K H5 p4 _ := SqL.of (Le.get 0 rfl)
  refine x_ixL h5 hy ?_
  walk_at "wr"
  refine copy_ok Le (gx _ (Le.get 2 rfl) (Le.get 1 rfl)) fun hd1 x1 H6 ok1 st1 Lf m6 => ?_
  walk_at "wr"
  refine copy_ok Lf (gy _ (Lf.get 2 rfl) (Lf.get 1 rfl)) fun hd2 y1 H7 ok2 st2 Lg m7 => ?_
  walk_at "wr"
  have s7 := st1 H7 (fun q hq => Lg.at_ q (List.mem_append_left _ (List.mem_append_right _ hq))) m7.grow
  refine ⟨p, n, bs, x1, y1, way, rfl, pk Lg.md, ok, n0, n1, .inl ⟨s7.2, fun t H8 ht m8 et => ?_⟩⟩
  have Lh := (Lg.stay m8).sub (List.sublist_append_left _ hd2)
  have od8 := s7.1.keep m8
  walk_at "wr"
  refine ⟨t, x1, rfl, et, od8, fun H9 m9 => ?_⟩
  have Li := Led.own Lh ((ok1.grow m7.grow).grow m8.grow) m9
  clear Le Lf Lg Lh
  walk_at "wr"
  refine copy_ok Li (gy _ (Li.get 2 rfl) (Li.get 1 rfl)) fun hd3 y2 H10 ok3 st3 Lj m10 => ?_
  walk_at "wr"
  refine ⟨b, o3, m + 2, n, rfl, Lj.get 3 rfl, bo3, by omega, by omega, by omega, fun s o4 H11 m11 hb11 bo4 s0 s1 => ?_⟩
  have Lk : Led [b] H H11 [] ([_, _, _, (b, o4)] ++ hd3) _ := Lj.change (i := 3) rfl m11 hb11
  have s11 := st3 H11 (fun q hq => Lk.at_ q (List.mem_append_right _ hq)) m11.grow
  walk_at "wr"
  refine ⟨p, n, bs, .int s, y2, 1 - way, rfl, pk Lk.md, ok, n0, n1, .inr (.inl ⟨⟨s, rfl, s0, s1⟩, s11.2, fun t2 H12 ht2 m12 et2 => ?_⟩)⟩
  have Ll := Lk.stay m12
  walk_at "wr"
  refine ⟨t2, y2, rfl, et2, s11.1.keep m12, fun H13 m13 => ?_⟩
  have Lm := Led.own Ll ((ok3.grow m11.grow).grow m12.grow) m13
  exact k H13 o4 Lm.md (Lm.get 3 rfl) (bo4.more (by omega))
theorem AndT.gt {K : Frag} {σ : L2.St} {H : Hp} {Q : VK} {c : Bool} {i j : Int} {a : Nat} (e : σ[a]? = some (some (.int i))) (h : Q (.bl (c && decide (j < i))) H) : AndT K (tOp rGtU (tVar a) (tC (.int j))) σ Q (.bl c) H := by
  refine AndT.bb ?_
  cases c with
  | false => exact IfT.no h
  | true => exact IfT.yes (x_op (x_var e (x_c (x_I0 (by rwa [Bool.true_and] at h)))))
local macro_rules | `(tactic| walk_at "wx") => `(tactic| ((with_reducible refine' AndT.gt ?e ?_); (case e => rfl)))
def Prs (K : Frag) (n : Nat) (us : List V) (H : Hp) : Prop := ∀ u ∈ us, ∃ (t : Addr) (i j : Nat), u = .ref t ∧ SqT K H t [.int i, .int j] ∧ i < n ∧ j < n
theorem stab_prs {K : Frag} {n : Nat} {us : List V} : Stab (Prs K n us) := fun _ _ g h u hu => by
  obtain ⟨t, i, j, h1, h2, h3, h4⟩ := h u hu
  exact ⟨t, i, j, h1, g.sqT h2, h3, h4⟩
theorem Prs.app {K : Frag} {n : Nat} {us vs : List V} {H : Hp} (h : Prs K n us H) (g : Prs K n vs H) : Prs K n (us ++ vs) H := fun u hu => (List.mem_append.mp hu).elim (h u) (g u)
theorem Prs.one {K : Frag} {n : Nat} {t : Addr} {i j : Int} {H : Hp} (h : H t = some (.tup [.int i, .int j])) (i0 : 0 ≤ i) (i1 : i < n) (j0 : 0 ≤ j) (j1 : j < n) : Prs K n [.ref t] H := fun u hu => by
  obtain rfl : u = .ref t := by simpa using hu
  refine ⟨t, i.toNat, j.toNat, rfl, ?_, by omega, by omega⟩
  rw [Int.toNat_of_nonneg i0, Int.toNat_of_nonneg j0]
  exact SqT.of h
theorem far_at {n : Nat} {H : Hp} {f : Addr} {rows : List Addr} {M : Tb} (h : FarAt H f rows M) (hd : Dim n M) {i : Nat} (hi : i < n) : ∃ r, rows[i]? = some r ∧ H r = some (.lst ((M.getD i []).map oV)) := by
  have h2 : M[i]? = some (M[i]'(by rw [hd.1]; exact hi)) := List.getElem?_eq_getElem _
  obtain ⟨r, h3, h4⟩ := pairAt' h.2 h2
  refine ⟨r, h3, ?_⟩
  rw [List.getD_eq_getElem?_getD, h2]
  exact h4
theorem len_law_right {K : Frag} {ad : Ad} : ∀ vs H Q E, sp_law_right K ad vs H Q E → vs.length = 4 := fun vs H Q E h => by
  obtain ⟨_, _, _, _, _, _, rfl, _⟩ := h; rfl
theorem pure_law_right {K : Frag} {mg : Str → Option Value} {ad : Ad} (T : Txt K mg ad) (vs : List V) (H : Hp) (Q : VK) (E : XK) (h : sp_law_right K ad vs H Q E) : t_law_right K ad { nx := fun _ H' => Q .non H', rt := Q } (L2.start ["box", "many", "rings", "way", "bounds", "plan", "far", "below", "pairs", "i", "j", "told", "turn"] vs) H := by
  obtain ⟨b, o, m, n, rings, way, rfl, hb, bo, hm, n0, n1, k⟩ := h
  have L := Led.start1 hb
  unfold t_law_right
  walk_at "wr"
  refine ⟨b, o, m, n, (rings && decide ((1 : Int) < n)), rfl, hb, bo, by omega, n0, n1, fun z => ?_, fun pB us bs o1 H1 hp m1 hb1 bo1 hpB tr okb hl => ?_⟩
  · have := of_decide_eq_true (Bool.and_eq_true_iff.mp z).2
    omega
  have La := (L.gainC (i := 0) rfl m1 hb1 hp hpB).phi stab_trps tr
  clear L
  walk_at "wr"
  refine MkV.mk La fun x dx H2 Lb => ?_
  refine ⟨x, dx, pB, n, us, bs, rfl, Lb.get 0 rfl, SqL.of (Lb.get 2 rfl), Lb.ne 2 0 rfl rfl (by decide), Lb.ph, okb, by omega, n0, n1, fun H3 m3 pa => ⟨rfl, ?_⟩⟩
  have pa' := pa
  obtain ⟨dx', t', us', hpx, _⟩ := pa'
  have Lc := Lb.change (i := 0) rfl m3 hpx
  clear La Lb
  walk_at "wr"
  refine ⟨n, pB, us, bs, rfl, SqL.of (Lc.get 2 rfl), Lc.ph, okb, by omega, n0, n1, fun t f rows M below H4 m4 ht hf hrows et fa hM hMm hbt hbf => ?_⟩
  have Ld := Lc.stay m4
  walk_at "wr"
  have hb4 := Ld.get 3 rfl
  have hB4 := Ld.get 2 rfl
  have hx4 := Ld.get 0 rfl
  have tr4 := Ld.ph
  have pa4 := pa.mod m4
  have md4 := Ld.md
  have nB : pB ≠ b := Ld.ne 2 3 rfl rfl (by decide)
  have nX : x ≠ b := Ld.ne 0 3 rfl rfl (by decide)
  have hb3 := Lc.get 3 rfl
  have nF : f ≠ b := fun e => by rw [e, hb3] at hf; cases hf
  have nR : ∀ r ∈ rows, r ≠ b := fun r hr e => by
    have := hrows r hr
    rw [e, hb3] at this
    cases this
  clear Lc Ld
  have hd : Dim n M := ⟨hM, fun i hi => by
    rw [List.getD_eq_getElem?_getD, List.getElem?_eq_getElem (by omega)]
    exact hMm _ (List.getElem_mem _)⟩
  have stay : ∀ {H' : Hp} {a : Addr} {u : HO}, Mod [b] H4 H' → a ≠ b → H4 a = some u → H' a = some u := fun md h e => md.keep _ _ (by simpa using h) e
  have sPa : ∀ {H' : Hp}, Mod [b] H4 H' → PlanAt K ad H' x n bs := fun md => pa4.keep (fun u e => stay md nX e) md.grow
  have sF : ∀ {H' : Hp}, Mod [b] H4 H' → SqL K H' f (rows.map V.ref) := fun md => SqL.of (stay md nF fa.1)
  have sR : ∀ {H' : Hp}, Mod [b] H4 H' → ∀ i, i < n → ∃ r, atI (rows.map V.ref) (i : Int) = some (.ref r) ∧ SqL K H' r ((M.getD i []).map oV) := fun md i hi => by
    obtain ⟨r, h1, h2⟩ := far_at fa hd hi
    exact ⟨r, ref_at h1, SqL.of (stay md (nR r (List.mem_of_getElem? h1)) h2)⟩
  have L := Led.start1 hb4
  walk_at "wr"
  refine LcV.rng L (fun D q H' => ∃ (ps : List V) (o' : HO), Led [b] H4 H' [] [(D, .lst ps), (b, o')] (Prs K n ps) ∧ ps.length = q ∧ BoxOk (m + 10000 + 2 * q) o') (fun D H' L' => ⟨[], o1, L'.phi stab_prs (fun _ h => nomatch h), rfl, bo1⟩) (fun D q H' hq ⟨ps, o2, L', hps, bo2⟩ => ?_) (fun D H' ⟨ps, o2, L', hps, bo2⟩ => ?_)
  · have hq' : q < 12 := hq
    walk_at "wr"
    refine ⟨b, o2, _, n, rfl, L'.get 1 rfl, bo2, by omega, by omega, by omega, fun i o3 H6 m6 hb6 bo3 i0 i1 => ?_⟩
    have La := L'.change (i := 1) rfl m6 hb6
    walk_at "wr"
    refine ⟨b, o3, _, n, rfl, La.get 1 rfl, bo3, by omega, by omega, by omega, fun j o4 H7 m7 hb7 bo4 j0 j1 => ?_⟩
    have Lb := La.change (i := 1) rfl m7 hb7
    clear La
    walk_at "wr"
    rename_i pt H8 Lc
    refine AccV.mk 1 Lc rfl (line_lt (by omega)) fun H9 Ld => ⟨ps ++ [.ref pt], o4, ?_, by simp [hps], bo4.more (by omega)⟩
    exact (Ld.phi stab_prs (Ld.ph.app (Prs.one (Ld.get 0 rfl) i0 i1 j0 j1))).sub (List.sublist_cons_self _ _)
  have hps' : ps.length = 12 := hps
  replace bo2 : BoxOk (m + 10100) o2 := bo2.more (by simp)
  clear L
  walk_at "wr"
  rename_i pt H5 La pl H6 Lb
  refine x_addL Lb (Lb.get 2 rfl) (Lb.get 0 rfl) (line_big (by simp; omega)) fun pP H7 Lc => ?_
  have Ld := (Lc.phi stab_prs (Lc.ph.app (Prs.one (Lc.get 2 rfl) (by omega) (by omega) (by omega) (by omega)))).sub (ls' := [(pP, .lst (ps ++ [.ref pt])), (b, o2)]) (by exact .cons₂ _ (.cons _ (.cons _ (.cons _ (.cons₂ _ .slnil)))))
  clear La Lb Lc L'
  walk_at "wr"
  refine IfS.cut (fun σ' H' => ∃ pP ps v9 v10, σ' = [some (.ref b), some (.int n), some (.bl rings), some (.int way), some (.ref pB), some (.ref x), some (.ref f), some (.bl below), some (.ref pP), v9, v10, none, none] ∧ Led [b] H4 H' [] [(pP, .lst ps), (b, o2)] (Prs K n ps) ∧ ps.length ≤ 1000)
    (fun σ' H8 ⟨pP, ps, v9, v10, e, Le, hl2⟩ => ?_) (fun N rest c => ?_) (fun N rest c => ?_)
  rotate_left
  · have c' := of_decide_eq_true c
    walk_at "wr"
    rename_i pP2 H8 Le
    have Lf := (Le.phi stab_prs (show Prs K n [] _ from fun _ h => nomatch h)).sub (ls' := [(pP2, .lst []), (b, o2)]) (by exact .cons₂ _ (.cons _ (.cons₂ _ .slnil)))
    clear Le Ld
    refine ForV.rng (fun q σ H' => ∃ ps v9 v10, σ = [some (.ref b), some (.int n), some (.bl rings), some (.int way), some (.ref pB), some (.ref x), some (.ref f), some (.bl below), some (.ref pP2), v9, v10, none, none] ∧ Led [b] H4 H' [] [(pP2, .lst ps), (b, o2)] (Prs K n ps) ∧ ps.length = q * n)
      ⟨[], _, _, rfl, Lf, by simp⟩ (fun q σ H' hq ⟨ps, v9, v10, e, Lg, hl3⟩ => ?_) (fun σ H' ⟨ps, v9, v10, e, Lg, hl3⟩ => ?_)
    · subst e
      rw [Int.toNat_natCast] at hq
      have hqn : q * n ≤ 900 := Nat.mul_le_mul (show q ≤ 30 by omega) n1
      walk_at "wr"
      refine LcV.rng Lg (fun D w H' => ∃ ws, Led [b] H4 H' [] [(D, .lst ws), (pP2, .lst ps), (b, o2)] (fun H => Prs K n ps H ∧ Prs K n ws H) ∧ ws.length = w) (fun D H' L' => ⟨[], L'.add stab_prs (fun _ h => nomatch h), rfl⟩) (fun D w H' hw ⟨ws, L', hl4⟩ => ?_) (fun D H' ⟨ws, L', hl4⟩ => ?_)
      · rw [Int.toNat_natCast] at hw
        walk_at "wr"
        rename_i pt H9 Lh
        refine AccV.mk 1 Lh rfl (line_lt (by omega)) fun H10 Li => ⟨ws ++ [.ref pt], ?_, by simp [hl4]⟩
        exact (Li.phi (stab_and stab_prs stab_prs) ⟨Li.ph.1, Li.ph.2.app (Prs.one (Li.get 0 rfl) (by omega) (by omega) (by omega) (by omega))⟩).sub (List.sublist_cons_self _ _)
      · rw [Int.toNat_natCast] at hl4
        walk_at "wr"
        refine x_ext 1 L' rfl (L'.get 0 rfl) (line_big (by omega)) fun H9 Lh => ?_
        walk_at "wr"
        refine ⟨ps ++ ws, _, _, rfl, (Lh.phi stab_prs (Lh.ph.1.app Lh.ph.2)).sub (List.sublist_cons_self _ _), ?_⟩
        rw [List.length_append, hl3, hl4, Nat.succ_mul]
    · subst e
      rw [Int.toNat_natCast] at hl3
      have : n * n ≤ 30 * 30 := Nat.mul_le_mul n1 n1
      exact rest _ _ ⟨pP2, ps, _, _, rfl, Lg, by omega⟩
  · walk_at "wr"
    exact rest _ _ ⟨pP, _, _, _, rfl, Ld, by simp; omega⟩
  subst e
  clear Ld
  have tf : Free bs → ∀ {w : Int} {i j : Nat} {H' : Hp} {Q' : VK} {E' : XK}, i < n → j < n → Mod [b] H4 H' → (∀ H9, Mod [] H' H9 → Q' (oV ((lengths bs n (i : Int)).getD j none)) H9) → sp_law_told K ad [.ref x, .int i, .int j, .int w] H' Q' E' := fun fr w i j H' Q' E' hi hj md q =>
    ⟨x, n, bs, _, _, w, rfl, sPa md, okb, n0, n1, .inr (.inr ⟨i, j, rfl, rfl, by omega, by omega, by omega, by omega, fun H9 m9 _ => q H9 m9, fun t2 q2 qs rs H9 _ _ _ _ _ _ rg _ => absurd fr (ring_not rg)⟩)⟩
  have tg : ¬ Free bs → ∀ {w : Int} {i j : Nat} {H' : Hp} {Q' : VK} {E' : XK}, i < n → j < n → Mod [b] H4 H' → (∀ t q ps rs H9, H' t = none → H' q = none → Mod [] H' H9 → H9 t = some (.tup [.str "ring", .ref q]) → H9 q = some (.lst ps) → Trps K H9 ps rs → Ring bs rs → rs.length ≤ n → Q' (.ref t) H9) → sp_law_told K ad [.ref x, .int i, .int j, .int w] H' Q' E' := fun nf w i j H' Q' E' hi hj md q =>
    ⟨x, n, bs, _, _, w, rfl, sPa md, okb, n0, n1, .inr (.inr ⟨i, j, rfl, rfl, by omega, by omega, by omega, by omega, fun H9 m9 fr => absurd fr nf, q⟩)⟩
  have fin : ∀ {H' : Hp} {o' : HO} {E' : XK}, Led [b] H4 H' [] [(pP, .lst ps), (b, o')] (Prs K n ps) → BoxOk (m + 10200) o' → sp_law_bad_right K ad [.ref b, .ref x, .int n, .int way] H' Q E' := fun {H' o' E'} L bo' =>
    ⟨b, x, o', m + 10200, n, bs, way, rfl, L.get 1 rfl, bo', by omega, sPa L.md, okb, n0, n1, fun H'' o'' m' hb'' bo'' => k H'' o'' (md4.trans (L.md.trans m')) hb'' (bo''.more (by omega))⟩
  cases below with
  | true =>
    have nf := hbt rfl
    walk_at "wr"
    refine ForV.lst (K := K) (a := pP) (xs := ps) (fun q σ H' => ∃ v9 v10 v11, σ = [some (.ref b), some (.int n), some (.bl rings), some (.int way), some (.ref pB), some (.ref x), some (.ref f), some (.bl true), some (.ref pP), v9, v10, v11, none] ∧ Led [b] H4 H' [] [(pP, .lst ps), (b, o2)] (Prs K n ps))
      ⟨_, _, _, rfl, Le⟩ (fun q σ H' _ ⟨_, _, _, _, L'⟩ => SqL.of (L'.get 0 rfl)) (fun q u σ H' hu ⟨v9, v10, v11, e, Lf⟩ => ?_) (fun σ H' ⟨v9, v10, v11, e, Lf⟩ => ?_)
    · subst e
      obtain ⟨t1, i, j, rfl, hT, hi, hj⟩ := Lf.ph u (List.mem_of_getElem? hu)
      walk_at "wr"
      refine tg nf hi hj Lf.md fun t2 q2 qs rs H9 ht2 hq2 m9 et2 eq2 etr rg lr => ?_
      have Lg := Lf.stay m9
      have lq := pairLen etr
      walk_at "wr"
      refine IfT.no ?_
      walk_at "wr"
      refine IfT.no ?_
      walk_at "wr"
      refine ⟨pB, q2, us, qs, bs, rs, rfl, SqL.of (stay Lg.md nB hB4), trps_grow Lg.md.grow tr4, by omega, SqL.of eq2, etr, by omega, rg, fun H10 m10 => ?_⟩
      have Lh := Lg.stay m10
      walk_at "wr"
      exact ⟨_, _, _, rfl, Lh⟩
    · subst e
      walk_at "wr"
      exact fin Lf (bo2.more (by omega))
  | false =>
    obtain ⟨fr, eqs⟩ := hbf rfl
    replace eqs : ∀ i j, i < n → j < n → tat M i j = (lengths bs n (i : Int)).getD j none := eqs
    walk_at "wr"
    refine ForV.lst (K := K) (a := pP) (xs := ps) (fun q σ H' => ∃ v9 v10 v11, σ = [some (.ref b), some (.int n), some (.bl rings), some (.int way), some (.ref pB), some (.ref x), some (.ref f), some (.bl false), some (.ref pP), v9, v10, v11, none] ∧ Led [b] H4 H' [] [(pP, .lst ps), (b, o2)] (Prs K n ps))
      ⟨_, _, _, rfl, Le⟩ (fun q σ H' _ ⟨_, _, _, _, L'⟩ => SqL.of (L'.get 0 rfl)) (fun q u σ H' hu ⟨v9, v10, v11, e, Lf⟩ => ?_) (fun σ H' ⟨v9, v10, v11, e, Lf⟩ => ?_)
    · subst e
      obtain ⟨t1, i, j, rfl, hT, hi, hj⟩ := Lf.ph u (List.mem_of_getElem? hu)
      have same : ∀ {H' : Hp} {Q' : VK} {E' : XK}, (∀ H9, Mod [] H' H9 → Q' (.bl true) H9) → sp_law_same K ad [oV ((lengths bs n (i : Int)).getD j none), oV (tat M i j)] H' Q' E' := fun q =>
        ⟨_, _, oD (tat M i j), rfl, by rw [eqs i j hi hj]; exact dpO _, dpO _, flatO _, q⟩
      walk_at "wr"
      refine tf fr hi hj Lf.md fun H9 m9 => ?_
      have Lg := Lf.stay m9
      obtain ⟨r, hr1, hr2⟩ := sR Lg.md i hi
      have hf9 := sF Lg.md
      walk_at "wr"
      refine x_ixL hf9 hr1 ?_
      walk_at "wr"
      refine x_ixL hr2 (row_at hd hi hj) ?_
      walk_at "wr"
      refine same fun H10 m10 => ?_
      have Lh := Lg.stay m10
      walk_at "wr"
      refine tf fr hi hj Lh.md fun H11 m11 => ?_
      have Li := Lh.stay m11
      obtain ⟨r', hr3, hr4⟩ := sR Li.md i hi
      have hf11 := sF Li.md
      walk_at "wr"
      refine x_ixL hf11 hr3 ?_
      walk_at "wr"
      refine x_ixL hr4 (row_at hd hi hj) ?_
      walk_at "wr"
      refine same fun H12 m12 => ?_
      have Lj := Li.stay m12
      walk_at "wr"
      exact ⟨_, _, _, rfl, Lj⟩
    · subst e
      walk_at "wr"
      refine IfS.cut (fun σ' H' => ∃ v9 v10 o', σ' = [some (.ref b), some (.int n), some (.bl rings), some (.int way), some (.ref pB), some (.ref x), some (.ref f), some (.bl false), some (.ref pP), v9, v10, v11, none] ∧ Led [b] H4 H' [] [(pP, .lst ps), (b, o')] (Prs K n ps) ∧ BoxOk (m + 10200) o')
        (fun σ' H9 ⟨v9, v10, o3, e, Lg, bo3⟩ => ?_) (fun N rest c => ?_) (fun N rest c => ?_)
      rotate_left
      · have c' := of_decide_eq_true c
        walk_at "wr"
        refine ⟨b, o2, _, n, rfl, Lf.get 1 rfl, bo2, by omega, by omega, by omega, fun i o3 H6 m6 hb6 bo3 i0 i1 => ?_⟩
        have Lg := Lf.change (i := 1) rfl m6 hb6
        walk_at "wr"
        refine ⟨b, o3, _, n - 1, rfl, Lg.get 1 rfl, bo3, by omega, by omega, by omega, fun r o4 H7 m7 hb7 bo4 r0 r1 => ?_⟩
        have Lh := Lg.change (i := 1) rfl m7 hb7
        clear Lg
        walk_at "wr"
        obtain ⟨j, hj⟩ : ∃ j, (i + 1 + r) % (n : Int) = j := ⟨_, rfl⟩
        rw [hj]
        rw [turn_mod (by omega) (by omega)] at hj
        have j0 : 0 ≤ j ∧ j < n ∧ i ≠ j := by split at hj <;> omega
        obtain ⟨j1, j2, ij⟩ := j0
        obtain ⟨r1, hr1, hr2⟩ := sR Lh.md i.toNat (by omega)
        rw [Int.toNat_of_nonneg i0] at hr1
        have hf9 := sF Lh.md
        have c2 : atI ((M.getD i.toNat []).map oV) j = some (oV (tat M i.toNat j.toNat)) := by have := row_at hd (i := i.toNat) (j := j.toNat) (by omega) (by omega); rwa [Int.toNat_of_nonneg j1] at this
        have e2 := eqs i.toNat j.toNat (by omega) (by omega)
        rw [Int.toNat_of_nonneg i0] at e2
        walk_at "wr"
        refine x_ixL hf9 hr1 ?_
        walk_at "wr"
        refine x_ixL hr2 c2 ?_
        cases hc : tat M i.toNat j.toNat with
        | none =>
          walk_at "wr"
          exact rest _ _ ⟨_, _, o4, rfl, Lh, bo4.more (by omega)⟩
        | some d =>
          walk_at "wr"
          refine x_ixL hf9 hr1 ?_
          walk_at "wr"
          refine x_ixL hr2 c2 ?_
          rw [hc]
          walk_at "wr"
          refine ⟨n, pB, us, bs, i, j, d, rfl, stay Lh.md nB hB4, trps_grow Lh.md.grow tr4, okb, by omega, n0, n1, i0, i1, j1, j2, ij, fr, e2.symm.trans hc, fun H8 m8 => ?_⟩
          have Li := Lh.stay m8
          walk_at "wr"
          exact rest _ _ ⟨_, _, o4, rfl, Li, bo4.more (by omega)⟩
      · walk_at "wr"
        exact rest _ _ ⟨_, _, o2, rfl, Lf, bo2.more (by omega)⟩
      subst e
      walk_at "wr"
      exact fin Lg bo3
theorem len_law {K : Frag} {ad : Ad} : ∀ vs H Q E, sp_law K ad vs H Q E → vs.length = 1 := fun vs H Q E h => by
  obtain ⟨_, _, rfl, _⟩ := h; rfl
theorem pure_law {K : Frag} {mg : Str → Option Value} {ad : Ad} (T : Txt K mg ad) (vs : List V) (H : Hp) (Q : VK) (E : XK) (h : sp_law K ad vs H Q E) : t_law K ad { nx := fun _ H' => Q .non H', rt := Q } (L2.start ["script", "k", "box", "way", "rings", "many"] vs) H := by
  obtain ⟨a, ns, rfl, hs, hl, k⟩ := h
  have L := Led.start0 H
  unfold t_law
  walk_at "wr"
  refine ForV.rng (fun q σ H' => ∃ v1 v2 v3 v4 v5, σ = [some (.ref a), v1, v2, v3, v4, v5] ∧ Mod [] H H') ⟨_, _, _, _, _, rfl, Mod.refl _ _⟩ (fun q σ H' hq ⟨v1, v2, v3, v4, v5, e, md⟩ => ?_) (fun σ H' ⟨v1, v2, v3, v4, v5, e, md⟩ => ?_)
  · subst e
    have hq6 : q < 6 := by
      by_cases h1 : (6 : Int) < (ns.map V.int).length
      · simp only [if_pos h1] at hq; exact hq
      · simp only [if_neg h1] at hq
        split at hq <;> omega
    clear hq
    have L := Led.start0 H'
    walk_at "wr"
    refine ⟨a, ns, _, rfl, md.sqL (by simp) hs, hl, by omega, by omega, fun g H1 m1 => ?_⟩
    have La := L.stay m1
    clear L
    walk_at "wr"
    refine ⟨g, rfl, fun b o H2 hb m2 hb2 bo => ?_⟩
    have Lb := La.gain hb m2 hb2
    clear La
    walk_at "wr"
    refine ⟨b, o, 0, 2, rfl, Lb.get 0 rfl, bo, by omega, by omega, by omega, fun way o3 H3 m3 hb3 bo3 w0 w1 => ?_⟩
    have Lc := Lb.change (i := 0) rfl m3 hb3
    clear Lb
    walk_at "wr"
    refine ⟨b, o3, 1, 3, rfl, Lc.get 0 rfl, bo3, by omega, by omega, by omega, fun rg o4 H4 m4 hb4 bo4 r0 r1 => ?_⟩
    have Ld := Lc.change (i := 0) rfl m4 hb4
    clear Lc
    walk_at "wr"
    refine ⟨b, o4, 2, 8, rfl, Ld.get 0 rfl, bo4, by omega, by omega, by omega, fun e8 o5 H5 m5 hb5 bo5 e0 e1 => ?_⟩
    have Le := Ld.change (i := 0) rfl m5 hb5
    clear Ld
    generalize decide (rg = 0) = rings
    walk_at "wr"
    refine IfT.by_ (fun c => ?a) (fun c => ?b)
    case' a =>
      walk_at "wr"
      refine ⟨b, o5, 3, 23, rfl, Le.get 0 rfl, bo5, by omega, by omega, by omega, fun r o6 H6 m6 hb6 bo6 s0 s1 => ?_⟩
      have Lf := Le.change (i := 0) rfl m6 hb6
      walk_at "wr"
      obtain ⟨mn, e, h1, h2⟩ : ∃ mn : Nat, 8 + r = (mn : Int) ∧ 1 ≤ mn ∧ mn ≤ 30 := ⟨(8 + r).toNat, by omega, by omega, by omega⟩
    case' b =>
      walk_at "wr"
      refine ⟨b, o5, 3, 7, rfl, Le.get 0 rfl, bo5, by omega, by omega, by omega, fun r o6 H6 m6 hb6 bo6 s0 s1 => ?_⟩
      have Lf := Le.change (i := 0) rfl m6 hb6
      walk_at "wr"
      obtain ⟨mn, e, h1, h2⟩ : ∃ mn : Nat, 1 + r = (mn : Int) ∧ 1 ≤ mn ∧ mn ≤ 30 := ⟨(1 + r).toNat, by omega, by omega, by omega⟩
    all_goals
      rw [e]
      refine ⟨b, o6, 4, mn, rings, way, rfl, Lf.get 0 rfl, bo6, by omega, h1, h2, fun H7 o7 m7 hb7 bo7 => ?_⟩
      have Lg := Lf.change (i := 0) rfl m7 hb7
      walk_at "wr"
      refine ⟨b, o7, _, 3, rfl, Lg.get 0 rfl, bo7, by omega, by omega, by omega, fun r2 o8 H8 m8 hb8 bo8 t0 t1 => ?_⟩
      have Lh := Lg.change (i := 0) rfl m8 hb8
      walk_at "wr"
      obtain ⟨mn2, e2, h3, h4⟩ : ∃ mn : Nat, 2 + r2 = (mn : Int) ∧ 1 ≤ mn ∧ mn ≤ 30 := ⟨(2 + r2).toNat, by omega, by omega, by omega⟩
      rw [e2]
      refine ⟨b, o8, _, mn2, !rings, 1 - way, rfl, Lh.get 0 rfl, bo8, by omega, h3, h4, fun H9 o9 m9 hb9 bo9 => ?_⟩
      have Li := Lh.change (i := 0) rfl m9 hb9
      walk_at "wr"
      exact ⟨_, _, _, _, _, rfl, md.trans Li.md⟩
  · subst e
    walk_at "wr"
    exact k _
end A49
namespace A49
open PySem L2 SK
open PySem.W (Frag)
section
variable {P : Program} {w : World} {K : Frag} {mg : Str → Option Value} {base : Heap} {ad : Ad}
theorem ok_is_whole {f : Addr} {fd : FuncData} (F : Fun K "is_whole" "is_whole" s_is_whole f fd) (T : Txt K mg ad) : FnOk P w K mg base CX0 1 f fd ["value"] (sp_is_whole K ad) := by
  refine F.ok sc_is_whole len_is_whole (fun cdv A outer s H vs Q E hr h => ⟨t_is_whole K ad, ?_, pure_is_whole T vs H Q E h⟩)
  exact (pss_one (ps_ret (pe_andT (pe_callB call_isiU (by rfl) T.b_isinstance (by decide +kernel) (pa_cons (pv 0) (pa_cons (pe_bltn (by rfl) T.b_int (by decide +kernel) rfl) pa_nil))) (pe_one (pe_notT (pe_callB call_isiU (by rfl) T.b_isinstance (by decide +kernel) (pa_cons (pv 0) (pa_cons (pe_bltn (by rfl) T.b_bool (by decide +kernel) rfl) pa_nil))))))))
theorem ok_is_from_to {f : Addr} {fd : FuncData} (F : Fun K "is_from_to" "is_from_to" s_is_from_to f fd) (T : Txt K mg ad) (c_is_whole : Callee P w K mg base CX0 1 "is_whole" ["value"] (sp_is_whole K ad)) : FnOk P w K mg base CX0 2 f fd ["value", "low", "high"] (sp_is_from_to K ad) := by
  refine F.ok sc_is_from_to len_is_from_to (fun cdv A outer s H vs Q E hr h => ⟨t_is_from_to K ad, ?_, pure_is_from_to T vs H Q E h⟩)
  exact (pss_one (ps_ret (pe_andT (pe_fn c_is_whole (hr.mono (by omega)) (fun _ => out0) (pa_cons (pv 0) pa_nil)) (pe_one (pe_chain op_le op_le (pv 1) (pv 0) (pv 2))))))
theorem ok_is_index {f : Addr} {fd : FuncData} (F : Fun K "is_index" "is_index" s_is_index f fd) (T : Txt K mg ad) (c_is_whole : Callee P w K mg base CX0 1 "is_whole" ["value"] (sp_is_whole K ad)) : FnOk P w K mg base CX0 2 f fd ["value", "many"] (sp_is_index K ad) := by
  refine F.ok sc_is_index len_is_index (fun cdv A outer s H vs Q E hr h => ⟨t_is_index K ad, ?_, pure_is_index T vs H Q E h⟩)
  exact (pss_one (ps_ret (pe_andT (pe_fn c_is_whole (hr.mono (by omega)) (fun _ => out0) (pa_cons (pv 0) pa_nil)) (pe_one (pe_chain op_le op_ltU pe_int (pv 0) (pv 1))))))
theorem ok_is_listed {f : Addr} {fd : FuncData} (F : Fun K "is_listed" "is_listed" s_is_listed f fd) (T : Txt K mg ad) : FnOk P w K mg base CX0 1 f fd ["value"] (sp_is_listed K ad) := by
  refine F.ok sc_is_listed len_is_listed (fun cdv A outer s H vs Q E hr h => ⟨t_is_listed K ad, ?_, pure_is_listed T vs H Q E h⟩)
  exact (pss_one (ps_ret (pe_callB call_isiU (by rfl) T.b_isinstance (by decide +kernel) (pa_cons (pv 0) (pa_cons (pe_tup (pa_cons (pe_bltn (by rfl) T.b_list (by decide +kernel) rfl) (pa_cons (pe_bltn (by rfl) T.b_tuple (by decide +kernel) rfl) pa_nil))) pa_nil)))))
theorem ok_is_tuple_of {f : Addr} {fd : FuncData} (F : Fun K "is_tuple_of" "is_tuple_of" s_is_tuple_of f fd) (T : Txt K mg ad) : FnOk P w K mg base CX0 1 f fd ["value", "many"] (sp_is_tuple_of K ad) := by
  refine F.ok sc_is_tuple_of len_is_tuple_of (fun cdv A outer s H vs Q E hr h => ⟨t_is_tuple_of K ad, ?_, pure_is_tuple_of T vs H Q E h⟩)
  exact (pss_one (ps_ret (pe_andT (pe_callB call_isiU (by rfl) T.b_isinstance (by decide +kernel) (pa_cons (pv 0) (pa_cons (pe_bltn (by rfl) T.b_tuple (by decide +kernel) rfl) pa_nil))) (pe_one (pe_cmpR (op_eqU (hu64 hr)) (pe_callB call_lenU (by rfl) T.b_len (by decide +kernel) (pa_cons (pv 0) pa_nil)) (pv 1) (nomark _))))))
theorem ok_is_bound {f : Addr} {fd : FuncData} (F : Fun K "is_bound" "is_bound" s_is_bound f fd) (T : Txt K mg ad) (c_is_index : Callee P w K mg base CX0 2 "is_index" ["value", "many"] (sp_is_index K ad)) (c_is_tuple_of : Callee P w K mg base CX0 1 "is_tuple_of" ["value", "many"] (sp_is_tuple_of K ad)) (c_is_whole : Callee P w K mg base CX0 1 "is_whole" ["value"] (sp_is_whole K ad)) : FnOk P w K mg base CX0 3 f fd ["many", "value"] (sp_is_bound K ad) := by
  refine F.ok sc_is_bound len_is_bound (fun cdv A outer s H vs Q E hr h => ⟨t_is_bound K ad, ?_, pure_is_bound T vs H Q E h⟩)
  exact (pss_cons (ps_if (PW.pt (pw_or (pt_not (pt_tr (pe_fn c_is_tuple_of (hr.mono (by omega)) (fun _ => out0) (pa_cons (pv 1) (pa_cons pe_int pa_nil))))) (pw_or (pt_not (pt_tr (pe_fn c_is_index (hr.mono (by omega)) (fun _ => out0) (pa_cons (pe_ix ix_seq (pv 1) pe_int (fun _ _ => rfl)) (pa_cons (pv 0) pa_nil))))) (pw_or1 (pt_not (pt_tr (pe_fn c_is_index (hr.mono (by omega)) (fun _ => out0) (pa_cons (pe_ix ix_seq (pv 1) pe_int (fun _ _ => rfl)) (pa_cons (pv 0) pa_nil))))))))) (pss_one (ps_ret pe_bl)) pss_nil)
  (pss_one (ps_ret (pe_andT (pe_cmpR (op_neU (hu64 hr)) (pe_ix ix_seq (pv 1) pe_int (fun _ _ => rfl)) (pe_ix ix_seq (pv 1) pe_int (fun _ _ => rfl)) (nomark _)) (pe_one (pe_fn c_is_whole (hr.mono (by omega)) (fun _ => out0) (pa_cons (pe_ix ix_seq (pv 1) pe_int (fun _ _ => rfl)) pa_nil)))))))
theorem ok_are_bounds {f : Addr} {fd : FuncData} (F : Fun K "are_bounds" "are_bounds" s_are_bounds f fd) (T : Txt K mg ad) (c_is_bound : Callee P w K mg base CX0 3 "is_bound" ["many", "value"] (sp_is_bound K ad)) (c_is_listed : Callee P w K mg base CX0 1 "is_listed" ["value"] (sp_is_listed K ad)) : FnOk P w K mg base CX0 4 f fd ["many", "value"] (sp_are_bounds K ad) := by
  refine F.ok sc_are_bounds len_are_bounds (fun cdv A outer s H vs Q E hr h => ⟨t_are_bounds K ad, ?_, pure_are_bounds T vs H Q E h⟩)
  exact (pss_one (ps_ret (pe_andT (pe_fn c_is_listed (hr.mono (by omega)) (fun _ => out0) (pa_cons (pv 1) pa_nil)) (pe_one (pe_callB (cr_all rfl) (by rfl) T.b_all (by decide +kernel) (pa_cons (pe_lc (own := [("bound", 2)]) rfl sc_are_bounds.nd (pi_seq (pv 1)) (blkOk_by (by kernel_rfl)) (fun _ _ _ _ _ => (pg_name (i := 2) sc_are_bounds.nd rfl (by first | exact Or.inl rfl | exact Or.inr rfl))) (fun _ _ _ _ _ => pts_nil) (fun _ _ _ _ _ => (pe_fn c_is_bound (hr.mono (by omega)) (fun _ => out0) (pa_cons (pv 0) (pa_cons (pv 2) pa_nil))))) pa_nil))))))
theorem ok_lengths_from {f : Addr} {fd : FuncData} (F : Fun K "lengths_from" "lengths_from" s_lengths_from f fd) (T : Txt K mg ad) : FnOk P w K mg base CX0 1 f fd ["many", "start", "ways"] (sp_lengths_from K ad) := by
  refine F.ok sc_lengths_from len_lengths_from (fun cdv A outer s H vs Q E hr h => ⟨t_lengths_from K ad, ?_, pure_lengths_from T vs H Q E h⟩)
  exact (pss_cons (ps_setLc (i := 3) (own := [("point", 9)]) rfl sc_lengths_from.nd rfl rfl (sw_true rfl rfl rfl (by decide +kernel)) (pi_range1 rfl T.b_range (pa_cons (pv 0) pa_nil)) (blkOk_by (by kernel_rfl)) (fun _ _ _ _ _ => (pg_name (i := 9) sc_lengths_from.nd rfl (by first | exact Or.inl rfl | exact Or.inr rfl))) (fun _ _ _ _ _ => pts_nil) (fun _ _ _ _ _ => (pe_ifExp (pt_cmpR (op_eqU (hu64 hr)) (pv 9) (pv 1) (nomark _)) pe_int pe_non)))
  (pss_cons (ps_for PassesOwn.never rfl (pi_range1 rfl T.b_range (pa_cons (pe_op op_sub (pv 0) pe_int) pa_nil)) (pg_name (i := 4) sc_lengths_from.nd rfl (by first | exact Or.inl rfl | exact Or.inr rfl)) (pss_cons (ps_set (i := 5) sc_lengths_from.nd rfl (by first | exact Or.inl rfl | exact Or.inr rfl) (pe_callTy call_listU (by rfl) T.b_list (by decide +kernel) (pa_cons (pv 3) pa_nil)))
  (pss_cons (ps_for PassesOwn.never rfl (pi_seq (pv 2)) (pg_tup rfl (pgs_cons (pg_name (i := 6) sc_lengths_from.nd rfl (by first | exact Or.inl rfl | exact Or.inr rfl)) (pgs_cons (pg_name (i := 7) sc_lengths_from.nd rfl (by first | exact Or.inl rfl | exact Or.inr rfl)) (pgs_cons (pg_name (i := 8) sc_lengths_from.nd rfl (by first | exact Or.inl rfl | exact Or.inr rfl)) pgs_nil)))) (pss_one (ps_if (PW.pt (pw_and (pt_cmpR op_notU (pe_ix ix_seq (pv 3) (pv 6) (fun _ _ => rfl)) pe_non (nomark _)) (pw_and1 (PW.pt (pw_or (pt_cmpR op_isU (pe_ix ix_seq (pv 3) (pv 7) (fun _ _ => rfl)) pe_non (nomark _)) (pw_or1 (pt_cmpR op_ltU (pe_op op_addU (pe_ix ix_seq (pv 3) (pv 6) (fun _ _ => rfl)) (pv 8)) (pe_ix ix_seq (pv 3) (pv 7) (fun _ _ => rfl)) (nomark _)))))))) (pss_one (ps_asg (pe_op op_addU (pe_ix ix_seq (pv 3) (pv 6) (fun _ _ => rfl)) (pv 8)) (pg_sub (pv 3) (pv 7) set_list))) pss_nil)))
  (pss_one (ps_if (pt_cmpR (op_eqU (hu64 hr)) (pv 3) (pv 5) (nomark _)) (pss_one (ps_ret (pv 3))) pss_nil)))))
  (pss_one (ps_ret (pv 3)))))
theorem ok_last_lowered {f : Addr} {fd : FuncData} (F : Fun K "last_lowered" "last_lowered" s_last_lowered f fd) (T : Txt K mg ad) : FnOk P w K mg base CX0 1 f fd ["many", "ways"] (sp_last_lowered K ad) := by
  refine F.ok sc_last_lowered len_last_lowered (fun cdv A outer s H vs Q E hr h => ⟨t_last_lowered K ad, ?_, pure_last_lowered T vs H Q E h⟩)
  exact (pss_cons (ps_par3 rfl sc_last_lowered.nd rfl rfl rfl (by decide) (by decide) (by decide) rfl rfl rfl (pa_cons (pe_op op_mulU (pe_lst (pa_cons pe_int pa_nil)) (pv 0)) (pa_cons (pe_op op_mulU (pe_lst (pa_cons pe_non pa_nil)) (pv 0)) (pa_cons pe_non pa_nil))) rfl)
  (pss_cons (ps_for PassesOwn.never rfl (pi_range1 rfl T.b_range (pa_cons (pv 0) pa_nil)) (pg_name (i := 5) sc_last_lowered.nd rfl (by first | exact Or.inl rfl | exact Or.inr rfl)) (pss_cons (ps_set (i := 4) sc_last_lowered.nd rfl (by first | exact Or.inl rfl | exact Or.inr rfl) pe_non)
  (pss_cons (ps_for PassesOwn.never rfl (pi_seq (pv 1)) (pg_name (i := 6) sc_last_lowered.nd rfl (by first | exact Or.inl rfl | exact Or.inr rfl)) (pss_cons (ps_asg (pv 6) (pg_tup rfl (pgs_cons (pg_name (i := 7) sc_last_lowered.nd rfl (by first | exact Or.inl rfl | exact Or.inr rfl)) (pgs_cons (pg_name (i := 8) sc_last_lowered.nd rfl (by first | exact Or.inl rfl | exact Or.inr rfl)) (pgs_cons (pg_name (i := 9) sc_last_lowered.nd rfl (by first | exact Or.inl rfl | exact Or.inr rfl)) pgs_nil)))))
  (pss_one (ps_if (pt_cmpR op_ltU (pe_op op_addU (pe_ix ix_seq (pv 2) (pv 7) (fun _ _ => rfl)) (pv 9)) (pe_ix ix_seq (pv 2) (pv 8) (fun _ _ => rfl)) (nomark _)) (pss_cons (ps_asg (pe_op op_addU (pe_ix ix_seq (pv 2) (pv 7) (fun _ _ => rfl)) (pv 9)) (pg_sub (pv 2) (pv 8) set_list))
  (pss_cons (ps_asg (pv 6) (pg_sub (pv 3) (pv 8) set_list))
  (pss_one (ps_set (i := 4) sc_last_lowered.nd rfl (by first | exact Or.inl rfl | exact Or.inr rfl) (pv 8))))) pss_nil))))
  (pss_one (ps_if (pt_cmpR op_isU (pv 4) pe_non (nomark _)) (pss_one (ps_ret (pe_tup (pa_cons (pv 3) (pa_cons pe_non pa_nil))))) pss_nil)))))
  (pss_one (ps_ret (pe_tup (pa_cons (pv 3) (pa_cons (pv 4) pa_nil)))))))
theorem ok_ring_in {f : Addr} {fd : FuncData} (F : Fun K "ring_in" "ring_in" s_ring_in f fd) (T : Txt K mg ad) (c_last_lowered : Callee P w K mg base CX0 1 "last_lowered" ["many", "ways"] (sp_last_lowered K ad)) : FnOk P w K mg base CX0 2 f fd ["many", "ways"] (sp_ring_in K ad) := by
  refine F.ok sc_ring_in len_ring_in (fun cdv A outer s H vs Q E hr h => ⟨t_ring_in K ad, ?_, pure_ring_in T vs H Q E h⟩)
  exact (pss_cons (ps_asg (pe_fn c_last_lowered (hr.mono (by omega)) (fun _ => out0) (pa_cons (pv 0) (pa_cons (pv 1) pa_nil))) (pg_tup rfl (pgs_cons (pg_name (i := 2) sc_ring_in.nd rfl (by first | exact Or.inl rfl | exact Or.inr rfl)) (pgs_cons (pg_name (i := 3) sc_ring_in.nd rfl (by first | exact Or.inl rfl | exact Or.inr rfl)) pgs_nil))))
  (pss_cons (ps_if (pt_cmpR op_isU (pv 3) pe_non (nomark _)) (pss_one (ps_ret pe_non)) pss_nil)
  (pss_cons (ps_for PassesOwn.never rfl (pi_range1 rfl T.b_range (pa_cons (pv 0) pa_nil)) (pg_name (i := 4) sc_ring_in.nd rfl (by first | exact Or.inl rfl | exact Or.inr rfl)) (pss_one (ps_set (i := 3) sc_ring_in.nd rfl (by first | exact Or.inl rfl | exact Or.inr rfl) (pe_ix ix_seq (pe_ix ix_seq (pv 2) (pv 3) (fun _ _ => rfl)) pe_int (fun _ _ => rfl)))))
  (pss_cons (ps_par rfl sc_ring_in.nd rfl rfl (by decide) rfl rfl (pa_cons (pe_lst (pa_cons (pe_ix ix_seq (pv 2) (pv 3) (fun _ _ => rfl)) pa_nil)) (pa_cons (pe_ix ix_seq (pe_ix ix_seq (pv 2) (pv 3) (fun _ _ => rfl)) pe_int (fun _ _ => rfl)) pa_nil)) rfl)
  (pss_cons (ps_while PassesOwn.never (pt_cmpR (op_neU (hu64 hr)) (pv 6) (pv 3) (nomark _)) (pss_cons (ps_expr (pe_bm PySem.F.plainAttrs_list PySem.F.slot_list_append PySem.F.type_list_append mt_append (pv 5) (pa_cons (pe_ix ix_seq (pv 2) (pv 6) (fun _ _ => rfl)) pa_nil)))
  (pss_one (ps_set (i := 6) sc_ring_in.nd rfl (by first | exact Or.inl rfl | exact Or.inr rfl) (pe_ix ix_seq (pe_ix ix_seq (pv 2) (pv 6) (fun _ _ => rfl)) pe_int (fun _ _ => rfl))))))
  (pss_one (ps_ret (pe_revL (pv 5)))))))))
theorem ok_Plan_init {f : Addr} {fd : FuncData} (F : Fun K "__init__" "Plan.__init__" s_Plan_init f fd) (T : Txt K mg ad) (c_are_bounds : Callee P w K mg base CX0 4 "are_bounds" ["many", "value"] (sp_are_bounds K ad)) (c_is_from_to : Callee P w K mg base CX0 2 "is_from_to" ["value", "low", "high"] (sp_is_from_to K ad)) : FnOk P w K mg base CX0 5 f fd ["self", "many", "bounds"] (sp_Plan_init K ad) := by
  refine F.ok sc_Plan_init len_Plan_init (fun cdv A outer s H vs Q E hr h => ⟨t_Plan_init K ad, ?_, pure_Plan_init T vs H Q E h⟩)
  exact (pss_cons (ps_if (pt_not (pt_tr (pe_fn c_is_from_to (hr.mono (by omega)) (fun _ => out0) (pa_cons (pv 1) (pa_cons pe_int (pa_cons (pe_gl T.k_MOST_POINTS) pa_nil)))))) (pss_one ps_never) pss_nil)
  (pss_cons (ps_if (pt_not (pt_tr (pe_fn c_are_bounds (hr.mono (by omega)) (fun _ => out0) (pa_cons (pv 1) (pa_cons (pv 2) pa_nil))))) (pss_one ps_never) pss_nil)
  (pss_cons (ps_fld (pv 0) (pv 1) rfl)
  (pss_one (ps_fld (pv 0) (pe_callTy call_tupleU (by rfl) T.b_tuple (by decide +kernel) (pa_cons (pv 2) pa_nil)) rfl)))))
theorem ok_Plan_ring {f : Addr} {fd : FuncData} (F : Fun K "ring" "Plan.ring" s_Plan_ring f fd) (T : Txt K mg ad) (c_ring_in : Callee P w K mg base CX0 2 "ring_in" ["many", "ways"] (sp_ring_in K ad)) : FnOk P w K mg base CX0 3 f fd ["self"] (sp_Plan_ring K ad) := by
  refine F.ok sc_Plan_ring len_Plan_ring (fun cdv A outer s H vs Q E hr h => ⟨t_Plan_ring K ad, ?_, pure_Plan_ring T vs H Q E h⟩)
  exact (pss_one (ps_ret (pe_fn c_ring_in (hr.mono (by omega)) (fun _ => out0) (pa_cons (pe_fld (pv 0) rfl) (pa_cons (pe_fld (pv 0) rfl) pa_nil)))))
theorem ok_Plan_tight {f : Addr} {fd : FuncData} (F : Fun K "tight" "Plan.tight" s_Plan_tight f fd) (T : Txt K mg ad) (c_Plan_ring : CalleeM P w K mg base CX0 3 ad.C_Plan "ring" ["self"] (sp_Plan_ring K ad)) (c_is_index : Callee P w K mg base CX0 2 "is_index" ["value", "many"] (sp_is_index K ad)) (c_lengths_from : Callee P w K mg base CX0 1 "lengths_from" ["many", "start", "ways"] (sp_lengths_from K ad)) : FnOk P w K mg base (L2.CX P w) 4 f fd ["self", "one", "other"] (sp_Plan_tight K ad) := by
  obtain ⟨fI_InvalidPoint, T_InvalidPoint⟩ := T.e_InvalidPoint
  obtain ⟨fI_NoPlan, T_NoPlan⟩ := T.e_NoPlan
  refine F.okX sc_Plan_tight len_Plan_tight (fun cdv A outer s H vs Q E hr h => ⟨t_Plan_tight K ad E, ?_, pure_Plan_tight T vs H Q E h⟩)
  exact (pss_cons (ps_for (passes_of rfl) rfl (pi_seq (pe_tup (pa_cons (pv 1) (pa_cons (pv 2) pa_nil)))) (pg_name (i := 3) sc_Plan_tight.nd rfl (by first | exact Or.inl rfl | exact Or.inr rfl)) (pss_one (ps_if (pt_not (pt_tr (pe_fn c_is_index (hr.mono (by omega)) (fun _ => out0) (pa_cons (pv 3) (pa_cons (pe_fld (pv 0) rfl) pa_nil))))) (pss_one (ps_raiseE rfl T_InvalidPoint SE.named_given hr (takes_of rfl rfl rfl rfl) (pa_cons (pv 3) pa_nil))) pss_nil)))
  (pss_cons (ps_set (i := 4) sc_Plan_tight.nd rfl (by first | exact Or.inl rfl | exact Or.inr rfl) (pe_me0 c_Plan_ring (hr.mono (by omega)) (fun _ => out0) (pv 0)))
  (pss_cons (ps_if (pt_cmpR op_notU (pv 4) pe_non (nomark _)) (pss_one (ps_raiseE rfl T_NoPlan SE.named_ring hr (takes_of rfl rfl rfl rfl) (pa_cons (pv 4) pa_nil))) pss_nil)
  (pss_one (ps_ret (pe_ix ix_seq (pe_fn c_lengths_from (hr.mono (by omega)) (fun _ => out0) (pa_cons (pe_fld (pv 0) rfl) (pa_cons (pv 1) (pa_cons (pe_fld (pv 0) rfl) pa_nil)))) (pv 2) (fun _ _ => rfl)))))))
theorem ok_law_cell {f : Addr} {fd : FuncData} (F : Fun K "_law_cell" "_law_cell" s_law_cell f fd) (T : Txt K mg ad) : FnOk P w K mg base CX0 1 f fd ["script", "k"] (sp_law_cell K ad) := by
  refine F.ok sc_law_cell len_law_cell (fun cdv A outer s H vs Q E hr h => ⟨t_law_cell K ad, ?_, pure_law_cell T vs H Q E h⟩)
  exact (pss_one (ps_ret (pe_ifExp (pt_cmpR op_ltU (pv 1) (pe_callB call_lenU (by rfl) T.b_len (by decide +kernel) (pa_cons (pv 0) pa_nil)) (nomark _)) (pe_ix ix_seq (pv 0) (pv 1) (fun _ _ => rfl)) (pe_op op_addU (pe_op op_mulU pe_int (pv 1)) (pe_op op_mod (pe_callB (cr_sum rfl) (by rfl) T.b_sum (by decide +kernel) (pa_cons (pe_slice sl_U (pv 0) po_none (po_some pe_int)) pa_nil)) pe_int)))))
theorem ok_law_box {f : Addr} {fd : FuncData} (F : Fun K "_law_box" "_law_box" s_law_box f fd) (T : Txt K mg ad) : FnOk P w K mg base CX0 1 f fd ["great"] (sp_law_box K ad) := by
  refine F.ok sc_law_box len_law_box (fun cdv A outer s H vs Q E hr h => ⟨t_law_box K ad, ?_, pure_law_box T vs H Q E h⟩)
  exact (pss_one (ps_ret (pe_lst (pa_cons (pe_callB call_absU (by rfl) T.b_abs (by decide +kernel) (pa_cons (pv 0) pa_nil)) (pa_cons (pe_cmpR op_ge (pe_callB call_absU (by rfl) T.b_abs (by decide +kernel) (pa_cons (pv 0) pa_nil)) (pe_op op_pow pe_int pe_int) (nomark _)) (pa_cons (pe_op op_mod (pe_callTy call_intU (by rfl) T.b_int (by decide +kernel) (pa_cons (pe_callB call_absU (by rfl) T.b_abs (by decide +kernel) (pa_cons (pv 0) pa_nil)) pa_nil)) pe_int) (pa_cons pe_int pa_nil)))))))
theorem ok_law_take {f : Addr} {fd : FuncData} (F : Fun K "_law_take" "_law_take" s_law_take f fd) (T : Txt K mg ad) : FnOk P w K mg base CX0 1 f fd ["box", "many"] (sp_law_take K ad) := by
  refine F.ok sc_law_take len_law_take (fun cdv A outer s H vs Q E hr h => ⟨t_law_take K ad, ?_, pure_law_take T vs H Q E h⟩)
  exact (pss_cons (ps_if (PW.pt (pw_and (pt_tr (pe_ix ix_seq (pv 0) pe_int (fun _ _ => rfl))) (pw_and1 (pt_cmpR op_gt (pe_ix ix_seq (pv 0) pe_int (fun _ _ => rfl)) pe_int (nomark _))))) (pss_cons (ps_set (i := 2) sc_law_take.nd rfl (by first | exact Or.inl rfl | exact Or.inr rfl) (pe_op op_mod (pe_callTy call_intU (by rfl) T.b_int (by decide +kernel) (pa_cons (pe_ix ix_seq (pv 0) pe_int (fun _ _ => rfl)) pa_nil)) (pv 1)))
  (pss_cons (ps_asg (pe_op op_fdiv (pe_ix ix_seq (pv 0) pe_int (fun _ _ => rfl)) (pv 1)) (pg_sub (pv 0) pe_int set_list))
  (pss_one (ps_ret (pv 2))))) pss_nil)
  (pss_cons (ps_asg (pe_op op_addU (pe_ix ix_seq (pv 0) pe_int (fun _ _ => rfl)) pe_int) (pg_sub (pv 0) pe_int set_list))
  (pss_cons (ps_set (i := 3) sc_law_take.nd rfl (by first | exact Or.inl rfl | exact Or.inr rfl) (pe_op op_mod (pe_callTy call_intU (by rfl) T.b_int (by decide +kernel) (pa_cons (pe_op op_pow (pe_op op_addU (pe_op op_addU (pe_ix ix_seq (pv 0) pe_int (fun _ _ => rfl)) (pe_op op_mulU pe_int (pe_ix ix_seq (pv 0) pe_int (fun _ _ => rfl)))) pe_int) pe_int) pa_nil)) pe_int))
  (pss_one (ps_ret (pe_op op_mod (pe_op op_fdiv (pe_op op_mod (pe_callTy call_intU (by rfl) T.b_int (by decide +kernel) (pa_cons (pe_op op_pow (pe_op op_addU (pe_op op_mulU (pv 3) pe_int) (pe_op op_mulU pe_int (pe_ix ix_seq (pv 0) pe_int (fun _ _ => rfl)))) pe_int) pa_nil)) pe_int) pe_int) (pv 1)))))))
theorem ok_law_mixed {f : Addr} {fd : FuncData} (F : Fun K "_law_mixed" "_law_mixed" s_law_mixed f fd) (T : Txt K mg ad) (c_law_take : Callee P w K mg base CX0 1 "_law_take" ["box", "many"] (sp_law_take K ad)) : FnOk P w K mg base CX0 2 f fd ["box", "items"] (sp_law_mixed K ad) := by
  refine F.ok sc_law_mixed len_law_mixed (fun cdv A outer s H vs Q E hr h => ⟨t_law_mixed K ad, ?_, pure_law_mixed T vs H Q E h⟩)
  exact (pss_cons (ps_par rfl sc_law_mixed.nd rfl rfl (by decide) rfl rfl (pa_cons (pe_callTy call_listU (by rfl) T.b_list (by decide +kernel) (pa_cons (pv 1) pa_nil)) (pa_cons (pe_lst pa_nil) pa_nil)) rfl)
  (pss_cons (ps_while PassesOwn.never (pt_cmpR (op_neU (hu64 hr)) (pv 2) (pe_lst pa_nil) (nomark _)) (pss_one (ps_expr (pe_bm PySem.F.plainAttrs_list PySem.F.slot_list_append PySem.F.type_list_append mt_append (pv 3) (pa_cons (pe_bm PySem.F.plainAttrs_list PySem.F.slot_list_pop PySem.F.type_list_pop mt_popAt (pv 2) (pa_cons (pe_fn c_law_take (hr.mono (by omega)) (fun _ => out0) (pa_cons (pv 0) (pa_cons (pe_callB call_lenU (by rfl) T.b_len (by decide +kernel) (pa_cons (pv 2) pa_nil)) pa_nil))) pa_nil)) pa_nil)))))
  (pss_one (ps_ret (pv 3)))))
theorem ok_law_same {n : Nat} {spR sp : Sp} (hn : 0 ≤ n) {f : Addr} {fd : FuncData} (F : Fun K "_law_same" "_law_same" s_law_same f fd) (T : Txt K mg ad) (c_rec : Callee P w K mg base CX0 n "_law_same" ["told", "due"] spR)
    (len : ∀ vs H Q E, sp vs H Q E → vs.length = 2) (pure : ∀ vs H Q E, sp vs H Q E → t_law_same K ad spR { nx := fun _ H' => Q .non H', rt := Q } (L2.start ["told", "due", "k"] vs) H) : FnOk P w K mg base CX0 (n + 1) f fd ["told", "due"] sp := by
  refine F.ok sc_law_same len (fun cdv A outer s H vs Q E hr h => ⟨t_law_same K ad spR, ?_, pure vs H Q E h⟩)
  exact (pss_cons (ps_if (PW.pt (pw_or (pt_cmpR op_isU (pv 1) pe_non (nomark _)) (pw_or1 (pt_tr (pe_callB call_isiU (by rfl) T.b_isinstance (by decide +kernel) (pa_cons (pv 1) (pa_cons (pe_bltn (by rfl) T.b_bool (by decide +kernel) rfl) pa_nil))))))) (pss_one (ps_ret (pe_ifExp (pt_cmpR op_isU (pv 1) pe_non (nomark _)) (pe_cmpR op_isU (pv 0) pe_non (nomark _)) (pe_andT (pe_callB call_isiU (by rfl) T.b_isinstance (by decide +kernel) (pa_cons (pv 0) (pa_cons (pe_bltn (by rfl) T.b_bool (by decide +kernel) rfl) pa_nil))) (pe_one (pe_cmpR (op_eqU (hu64 hr)) (pe_cmpR op_isU (pv 0) pe_bl (nomark _)) (pe_cmpR op_isU (pv 1) pe_bl (nomark _)) (nomark _))))))) pss_nil)
  (pss_cons (ps_if (pt_tr (pe_callB call_isiU (by rfl) T.b_isinstance (by decide +kernel) (pa_cons (pv 1) (pa_cons (pe_bltn (by rfl) T.b_int (by decide +kernel) rfl) pa_nil)))) (pss_one (ps_ret (pe_andT (pe_callB call_isiU (by rfl) T.b_isinstance (by decide +kernel) (pa_cons (pv 0) (pa_cons (pe_bltn (by rfl) T.b_int (by decide +kernel) rfl) pa_nil))) (pe_andT (pe_notT (pe_callB call_isiU (by rfl) T.b_isinstance (by decide +kernel) (pa_cons (pv 0) (pa_cons (pe_bltn (by rfl) T.b_bool (by decide +kernel) rfl) pa_nil)))) (pe_one (pe_cmpR (op_eqU (hu64 hr)) (pe_op op_sub (pe_callTy call_intU (by rfl) T.b_int (by decide +kernel) (pa_cons (pv 0) pa_nil)) (pv 1)) pe_int (nomark _))))))) pss_nil)
  (pss_cons (ps_if (pt_tr (pe_callB call_isiU (by rfl) T.b_isinstance (by decide +kernel) (pa_cons (pv 1) (pa_cons (pe_bltn (by rfl) T.b_str (by decide +kernel) rfl) pa_nil)))) (pss_one (ps_ret (pe_andT (pe_callB call_isiU (by rfl) T.b_isinstance (by decide +kernel) (pa_cons (pv 0) (pa_cons (pe_bltn (by rfl) T.b_str (by decide +kernel) rfl) pa_nil))) (pe_andT (pe_cmpR (op_eqU (hu64 hr)) (pe_callB call_lenU (by rfl) T.b_len (by decide +kernel) (pa_cons (pv 0) pa_nil)) (pe_callB call_lenU (by rfl) T.b_len (by decide +kernel) (pa_cons (pv 1) pa_nil)) (nomark _)) (pe_one (pe_cmpR (op_eqU (hu64 hr)) (pe_lc (own := [("k", 2)]) rfl sc_law_same.nd (pi_range1 rfl T.b_range (pa_cons (pe_callB call_lenU (by rfl) T.b_len (by decide +kernel) (pa_cons (pv 1) pa_nil)) pa_nil)) (blkOk_by (by kernel_rfl)) (fun _ _ _ _ _ => (pg_name (i := 2) sc_law_same.nd rfl (by first | exact Or.inl rfl | exact Or.inr rfl))) (fun _ _ _ _ _ => (pts_one (pt_cmpR (op_neU (hu64 hr)) (pe_slice sl_U (pv 0) (po_some (pv 2)) (po_some (pe_op op_addU (pv 2) pe_int))) (pe_ix ix_seq (pv 1) (pv 2) (fun _ _ => rfl)) (nomark _)))) (fun _ _ _ _ _ => (pv 2))) (pe_lst pa_nil) (nomark _))))))) pss_nil)
  (pss_cons (ps_if (PW.pt (pw_or (pt_cmpR (op_neU (hu64 hr)) (pe_callB call_isiU (by rfl) T.b_isinstance (by decide +kernel) (pa_cons (pv 0) (pa_cons (pe_bltn (by rfl) T.b_list (by decide +kernel) rfl) pa_nil))) (pe_callB call_isiU (by rfl) T.b_isinstance (by decide +kernel) (pa_cons (pv 1) (pa_cons (pe_bltn (by rfl) T.b_list (by decide +kernel) rfl) pa_nil))) (nomark _)) (pw_or1 (pt_cmpR (op_neU (hu64 hr)) (pe_callB call_isiU (by rfl) T.b_isinstance (by decide +kernel) (pa_cons (pv 0) (pa_cons (pe_bltn (by rfl) T.b_tuple (by decide +kernel) rfl) pa_nil))) (pe_callB call_isiU (by rfl) T.b_isinstance (by decide +kernel) (pa_cons (pv 1) (pa_cons (pe_bltn (by rfl) T.b_tuple (by decide +kernel) rfl) pa_nil))) (nomark _))))) (pss_one (ps_ret pe_bl)) pss_nil)
  (pss_one (ps_ret (pe_andT (pe_cmpR (op_eqU (hu64 hr)) (pe_callB call_lenU (by rfl) T.b_len (by decide +kernel) (pa_cons (pv 0) pa_nil)) (pe_callB call_lenU (by rfl) T.b_len (by decide +kernel) (pa_cons (pv 1) pa_nil)) (nomark _)) (pe_one (pe_cmpR (op_eqU (hu64 hr)) (pe_lc (own := [("k", 2)]) rfl sc_law_same.nd (pi_range1 rfl T.b_range (pa_cons (pe_callB call_lenU (by rfl) T.b_len (by decide +kernel) (pa_cons (pv 1) pa_nil)) pa_nil)) (blkOk_by (by kernel_rfl)) (fun _ _ _ _ _ => (pg_name (i := 2) sc_law_same.nd rfl (by first | exact Or.inl rfl | exact Or.inr rfl))) (fun _ _ _ _ _ => (pts_one (pt_not (pt_tr (pe_fn c_rec (hr.mono (by omega)) (fun _ => out0) (pa_cons (pe_ix ix_seq (pv 0) (pv 2) (fun _ _ => rfl)) (pa_cons (pe_ix ix_seq (pv 1) (pv 2) (fun _ _ => rfl)) pa_nil))))))) (fun _ _ _ _ _ => (pv 2))) (pe_lst pa_nil) (nomark _))))))))))
theorem ok_law_whole {f : Addr} {fd : FuncData} (F : Fun K "_law_whole" "_law_whole" s_law_whole f fd) (T : Txt K mg ad) : FnOk P w K mg base CX0 1 f fd ["value"] (sp_law_whole K ad) := by
  refine F.ok sc_law_whole len_law_whole (fun cdv A outer s H vs Q E hr h => ⟨t_law_whole K ad, ?_, pure_law_whole T vs H Q E h⟩)
  exact (pss_one (ps_ret (pe_andT (pe_callB call_isiU (by rfl) T.b_isinstance (by decide +kernel) (pa_cons (pv 0) (pa_cons (pe_bltn (by rfl) T.b_int (by decide +kernel) rfl) pa_nil))) (pe_one (pe_notT (pe_callB call_isiU (by rfl) T.b_isinstance (by decide +kernel) (pa_cons (pv 0) (pa_cons (pe_bltn (by rfl) T.b_bool (by decide +kernel) rfl) pa_nil))))))))
theorem ok_law_blamed {f : Addr} {fd : FuncData} (F : Fun K "_law_blamed" "_law_blamed" s_law_blamed f fd) (T : Txt K mg ad) (c_law_same : Callee P w K mg base CX0 4 "_law_same" ["told", "due"] (sp_law_same K ad)) : FnOk P w K mg base CX0 5 f fd ["given", "value"] (sp_law_blamed K ad) := by
  refine F.ok sc_law_blamed len_law_blamed (fun cdv A outer s H vs Q E hr h => ⟨t_law_blamed K ad, ?_, pure_law_blamed T vs H Q E h⟩)
  exact (pss_cons (ps_if (pt_not (pt_tr (pe_fn c_law_same (hr.mono (by omega)) (fun _ => out0) (pa_cons (pv 0) (pa_cons (pv 1) pa_nil))))) (pss_one (ps_ret pe_bl)) pss_nil)
  (pss_cons (ps_if (pt_tr (pe_callB call_isiU (by rfl) T.b_isinstance (by decide +kernel) (pa_cons (pv 1) (pa_cons (pe_bltn (by rfl) T.b_list (by decide +kernel) rfl) pa_nil)))) (pss_one (ps_expr (pe_bm PySem.F.plainAttrs_list PySem.F.slot_list_append PySem.F.type_list_append mt_append (pv 1) (pa_cons pe_int pa_nil)))) pss_nil)
  (pss_one (ps_ret (pe_fn c_law_same (hr.mono (by omega)) (fun _ => out0) (pa_cons (pv 0) (pa_cons (pv 1) pa_nil)))))))
theorem ok_law_copy {f : Addr} {fd : FuncData} (F : Fun K "_law_copy" "_law_copy" s_law_copy f fd) (T : Txt K mg ad) : FnOk P w K mg base CX0 1 f fd ["value"] (sp_law_copy K ad) := by
  refine F.ok sc_law_copy len_law_copy (fun cdv A outer s H vs Q E hr h => ⟨t_law_copy K ad, ?_, pure_law_copy T vs H Q E h⟩)
  exact (pss_one (ps_ret (pe_ifExp (pt_tr (pe_callB call_isiU (by rfl) T.b_isinstance (by decide +kernel) (pa_cons (pv 0) (pa_cons (pe_bltn (by rfl) T.b_list (by decide +kernel) rfl) pa_nil)))) (pe_callTy call_listU (by rfl) T.b_list (by decide +kernel) (pa_cons (pv 0) pa_nil)) (pv 0))))
theorem ok_law_far {f : Addr} {fd : FuncData} (F : Fun K "_law_far" "_law_far" s_law_far f fd) (T : Txt K mg ad) : FnOk P w K mg base CX0 1 f fd ["many", "bounds"] (sp_law_far K ad) := by
  refine F.ok sc_law_far len_law_far (fun cdv A outer s H vs Q E hr h => ⟨t_law_far K ad, ?_, pure_law_far T vs H Q E h⟩)
  exact (pss_cons (ps_set (i := 2) sc_law_far.nd rfl (by first | exact Or.inl rfl | exact Or.inr rfl) (pe_lc (own := [("i", 3)]) rfl sc_law_far.nd (pi_range1 rfl T.b_range (pa_cons (pv 0) pa_nil)) (blkOk_by (by kernel_rfl)) (fun _ _ _ _ _ => (pg_name (i := 3) sc_law_far.nd rfl (by first | exact Or.inl rfl | exact Or.inr rfl))) (fun _ _ _ _ _ => pts_nil) (fun _ _ _ _ _ => (pe_lc (own := [("j", 4)]) rfl sc_law_far.nd (pi_range1 rfl T.b_range (pa_cons (pv 0) pa_nil)) (blkOk_by (by kernel_rfl)) (fun _ _ _ _ _ => (pg_name (i := 4) sc_law_far.nd rfl (by first | exact Or.inl rfl | exact Or.inr rfl))) (fun _ _ _ _ _ => pts_nil) (fun _ _ _ _ _ => (pe_ifExp (pt_cmpR (op_eqU (hu64 hr)) (pv 3) (pv 4) (nomark _)) pe_int pe_non))))))
  (pss_cons (ps_for PassesOwn.never rfl (pi_seq (pv 1)) (pg_tup rfl (pgs_cons (pg_name (i := 3) sc_law_far.nd rfl (by first | exact Or.inl rfl | exact Or.inr rfl)) (pgs_cons (pg_name (i := 4) sc_law_far.nd rfl (by first | exact Or.inl rfl | exact Or.inr rfl)) (pgs_cons (pg_name (i := 5) sc_law_far.nd rfl (by first | exact Or.inl rfl | exact Or.inr rfl)) pgs_nil)))) (pss_one (ps_if (PW.pt (pw_or (pt_cmpR op_isU (pe_ix ix_seq (pe_ix ix_seq (pv 2) (pv 3) (fun _ _ => rfl)) (pv 4) (fun _ _ => rfl)) pe_non (nomark _)) (pw_or1 (pt_cmpR op_ltU (pv 5) (pe_ix ix_seq (pe_ix ix_seq (pv 2) (pv 3) (fun _ _ => rfl)) (pv 4) (fun _ _ => rfl)) (nomark _))))) (pss_one (ps_asg (pv 5) (pg_sub (pe_ix ix_seq (pv 2) (pv 3) (fun _ _ => rfl)) (pv 4) set_list))) pss_nil)))
  (pss_cons (ps_for PassesOwn.never rfl (pi_range1 rfl T.b_range (pa_cons (pv 0) pa_nil)) (pg_name (i := 6) sc_law_far.nd rfl (by first | exact Or.inl rfl | exact Or.inr rfl)) (pss_one (ps_for PassesOwn.never rfl (pi_range1 rfl T.b_range (pa_cons (pv 0) pa_nil)) (pg_name (i := 3) sc_law_far.nd rfl (by first | exact Or.inl rfl | exact Or.inr rfl)) (pss_one (ps_if (pt_cmpR op_notU (pe_ix ix_seq (pe_ix ix_seq (pv 2) (pv 3) (fun _ _ => rfl)) (pv 6) (fun _ _ => rfl)) pe_non (nomark _)) (pss_one (ps_for PassesOwn.never rfl (pi_range1 rfl T.b_range (pa_cons (pv 0) pa_nil)) (pg_name (i := 4) sc_law_far.nd rfl (by first | exact Or.inl rfl | exact Or.inr rfl)) (pss_one (ps_if (PW.pt (pw_and (pt_cmpR op_notU (pe_ix ix_seq (pe_ix ix_seq (pv 2) (pv 6) (fun _ _ => rfl)) (pv 4) (fun _ _ => rfl)) pe_non (nomark _)) (pw_and1 (PW.pt (pw_or (pt_cmpR op_isU (pe_ix ix_seq (pe_ix ix_seq (pv 2) (pv 3) (fun _ _ => rfl)) (pv 4) (fun _ _ => rfl)) pe_non (nomark _)) (pw_or1 (pt_cmpR op_ltU (pe_op op_addU (pe_ix ix_seq (pe_ix ix_seq (pv 2) (pv 3) (fun _ _ => rfl)) (pv 6) (fun _ _ => rfl)) (pe_ix ix_seq (pe_ix ix_seq (pv 2) (pv 6) (fun _ _ => rfl)) (pv 4) (fun _ _ => rfl))) (pe_ix ix_seq (pe_ix ix_seq (pv 2) (pv 3) (fun _ _ => rfl)) (pv 4) (fun _ _ => rfl)) (nomark _)))))))) (pss_one (ps_asg (pe_op op_addU (pe_ix ix_seq (pe_ix ix_seq (pv 2) (pv 3) (fun _ _ => rfl)) (pv 6) (fun _ _ => rfl)) (pe_ix ix_seq (pe_ix ix_seq (pv 2) (pv 6) (fun _ _ => rfl)) (pv 4) (fun _ _ => rfl))) (pg_sub (pe_ix ix_seq (pv 2) (pv 3) (fun _ _ => rfl)) (pv 4) set_list))) pss_nil)))) pss_nil)))))
  (pss_one (ps_ret (pe_tup (pa_cons (pv 2) (pa_cons (pe_cmpR (op_neU (hu64 hr)) (pe_lc (own := [("i", 3)]) rfl sc_law_far.nd (pi_range1 rfl T.b_range (pa_cons (pv 0) pa_nil)) (blkOk_by (by kernel_rfl)) (fun _ _ _ _ _ => (pg_name (i := 3) sc_law_far.nd rfl (by first | exact Or.inl rfl | exact Or.inr rfl))) (fun _ _ _ _ _ => (pts_one (pt_cmpR op_ltU (pe_ix ix_seq (pe_ix ix_seq (pv 2) (pv 3) (fun _ _ => rfl)) (pv 3) (fun _ _ => rfl)) pe_int (nomark _)))) (fun _ _ _ _ _ => (pv 3))) (pe_lst pa_nil) (nomark _)) pa_nil))))))))
theorem ok_law_bounds {f : Addr} {fd : FuncData} (F : Fun K "_law_bounds" "_law_bounds" s_law_bounds f fd) (T : Txt K mg ad) (c_law_mixed : Callee P w K mg base CX0 2 "_law_mixed" ["box", "items"] (sp_law_mixed K ad)) (c_law_take : Callee P w K mg base CX0 1 "_law_take" ["box", "many"] (sp_law_take K ad)) : FnOk P w K mg base CX0 3 f fd ["box", "many", "rings"] (sp_law_bounds K ad) := by
  refine F.ok sc_law_bounds len_law_bounds (fun cdv A outer s H vs Q E hr h => ⟨t_law_bounds K ad, ?_, pure_law_bounds T vs H Q E h⟩)
  exact (pss_cons (ps_if (pt_cmpR (op_eqU (hu64 hr)) (pv 1) pe_int (nomark _)) (pss_one (ps_ret (pe_lst pa_nil))) pss_nil)
  (pss_cons (ps_set (i := 3) sc_law_bounds.nd rfl (by first | exact Or.inl rfl | exact Or.inr rfl) (pe_lc (own := [("k", 5)]) rfl sc_law_bounds.nd (pi_range1 rfl T.b_range (pa_cons (pv 1) pa_nil)) (blkOk_by (by kernel_rfl)) (fun _ _ _ _ _ => (pg_name (i := 5) sc_law_bounds.nd rfl (by first | exact Or.inl rfl | exact Or.inr rfl))) (fun _ _ _ _ _ => pts_nil) (fun _ _ _ _ _ => (pe_fn c_law_take (hr.mono (by omega)) (fun _ => out0) (pa_cons (pv 0) (pa_cons pe_int pa_nil))))))
  (pss_cons (ps_set (i := 4) sc_law_bounds.nd rfl (by first | exact Or.inl rfl | exact Or.inr rfl) (pe_lst pa_nil))
  (pss_cons (ps_for PassesOwn.never rfl (pi_range1 rfl T.b_range (pa_cons (pe_fn c_law_take (hr.mono (by omega)) (fun _ => out0) (pa_cons (pv 0) (pa_cons (pe_op op_addU (pe_op op_mulU pe_int (pv 1)) pe_int) pa_nil))) pa_nil)) (pg_name (i := 5) sc_law_bounds.nd rfl (by first | exact Or.inl rfl | exact Or.inr rfl)) (pss_cons (ps_set (i := 6) sc_law_bounds.nd rfl (by first | exact Or.inl rfl | exact Or.inr rfl) (pe_fn c_law_take (hr.mono (by omega)) (fun _ => out0) (pa_cons (pv 0) (pa_cons (pv 1) pa_nil))))
  (pss_cons (ps_set (i := 7) sc_law_bounds.nd rfl (by first | exact Or.inl rfl | exact Or.inr rfl) (pe_op op_mod (pe_callTy call_intU (by rfl) T.b_int (by decide +kernel) (pa_cons (pe_op op_addU (pe_op op_addU (pv 6) pe_int) (pe_fn c_law_take (hr.mono (by omega)) (fun _ => out0) (pa_cons (pv 0) (pa_cons (pe_op op_sub (pv 1) pe_int) pa_nil)))) pa_nil)) (pv 1)))
  (pss_one (ps_expr (pe_bm PySem.F.plainAttrs_list PySem.F.slot_list_append PySem.F.type_list_append mt_append (pv 4) (pa_cons (pe_tup (pa_cons (pv 6) (pa_cons (pv 7) (pa_cons (pe_op op_addU (pe_op op_sub (pe_ix ix_seq (pv 3) (pv 7) (fun _ _ => rfl)) (pe_ix ix_seq (pv 3) (pv 6) (fun _ _ => rfl))) (pe_fn c_law_take (hr.mono (by omega)) (fun _ => out0) (pa_cons (pv 0) (pa_cons pe_int pa_nil)))) pa_nil)))) pa_nil)))))))
  (pss_cons (ps_if (pt_cmpR (op_eqU (hu64 hr)) (pe_fn c_law_take (hr.mono (by omega)) (fun _ => out0) (pa_cons (pv 0) (pa_cons pe_int pa_nil))) pe_int (nomark _)) (pss_one (ps_expr (pe_bm PySem.F.plainAttrs_list PySem.F.slot_list_extend PySem.F.type_list_extend mt_extend (pv 4) (pa_cons (pe_lc (own := [("k", 5)]) rfl sc_law_bounds.nd (pi_range2 rfl T.b_range (pa_cons pe_int (pa_cons (pv 1) pa_nil))) (blkOk_by (by kernel_rfl)) (fun _ _ _ _ _ => (pg_name (i := 5) sc_law_bounds.nd rfl (by first | exact Or.inl rfl | exact Or.inr rfl))) (fun _ _ _ _ _ => pts_nil) (fun _ _ _ _ _ => (pe_tup (pa_cons (pv 5) (pa_cons pe_int (pa_cons (pe_op op_addU (pe_op op_sub (pe_ix ix_seq (pv 3) pe_int (fun _ _ => rfl)) (pe_ix ix_seq (pv 3) (pv 5) (fun _ _ => rfl))) (pe_fn c_law_take (hr.mono (by omega)) (fun _ => out0) (pa_cons (pv 0) (pa_cons pe_int pa_nil)))) pa_nil)))))) pa_nil)))) pss_nil)
  (pss_cons (ps_if (pt_tr (pv 2)) (pss_cons (ps_set (i := 8) sc_law_bounds.nd rfl (by first | exact Or.inl rfl | exact Or.inr rfl) (pe_slice sl_U (pe_fn c_law_mixed (hr.mono (by omega)) (fun _ => out0) (pa_cons (pv 0) (pa_cons (pe_listRg rfl (by rfl) T.b_list (prg_1 (by rfl) T.b_range (pv 1))) pa_nil))) po_none (po_some (pe_op op_addU pe_int (pe_fn c_law_take (hr.mono (by omega)) (fun _ => out0) (pa_cons (pv 0) (pa_cons (pe_op op_sub (pv 1) pe_int) pa_nil)))))))
  (pss_cons (ps_set (i := 9) sc_law_bounds.nd rfl (by first | exact Or.inl rfl | exact Or.inr rfl) (pe_lc (own := [("k", 5)]) rfl sc_law_bounds.nd (pi_seq (pv 8)) (blkOk_by (by kernel_rfl)) (fun _ _ _ _ _ => (pg_name (i := 5) sc_law_bounds.nd rfl (by first | exact Or.inl rfl | exact Or.inr rfl))) (fun _ _ _ _ _ => pts_nil) (fun _ _ _ _ _ => (pe_op op_sub (pe_fn c_law_take (hr.mono (by omega)) (fun _ => out0) (pa_cons (pv 0) (pa_cons pe_int pa_nil))) pe_int))))
  (pss_cons (ps_asg (pe_op op_sub (pe_op op_sub (pe_un un_neg pe_int) (pe_fn c_law_take (hr.mono (by omega)) (fun _ => out0) (pa_cons (pv 0) (pa_cons pe_int pa_nil)))) (pe_callB (cr_sum rfl) (by rfl) T.b_sum (by decide +kernel) (pa_cons (pe_slice sl_U (pv 9) (po_some pe_int) po_none) pa_nil))) (pg_sub (pv 9) pe_int set_list))
  (pss_one (ps_expr (pe_bm PySem.F.plainAttrs_list PySem.F.slot_list_extend PySem.F.type_list_extend mt_extend (pv 4) (pa_cons (pe_lc (own := [("k", 5)]) rfl sc_law_bounds.nd (pi_range1 rfl T.b_range (pa_cons (pe_callB call_lenU (by rfl) T.b_len (by decide +kernel) (pa_cons (pv 8) pa_nil)) pa_nil)) (blkOk_by (by kernel_rfl)) (fun _ _ _ _ _ => (pg_name (i := 5) sc_law_bounds.nd rfl (by first | exact Or.inl rfl | exact Or.inr rfl))) (fun _ _ _ _ _ => pts_nil) (fun _ _ _ _ _ => (pe_tup (pa_cons (pe_ix ix_seq (pv 8) (pv 5) (fun _ _ => rfl)) (pa_cons (pe_ix ix_seq (pv 8) (pe_op op_mod (pe_callTy call_intU (by rfl) T.b_int (by decide +kernel) (pa_cons (pe_op op_addU (pv 5) pe_int) pa_nil)) (pe_callB call_lenU (by rfl) T.b_len (by decide +kernel) (pa_cons (pv 8) pa_nil))) (fun _ _ => rfl)) (pa_cons (pe_ix ix_seq (pv 9) (pv 5) (fun _ _ => rfl)) pa_nil)))))) pa_nil))))))) pss_nil)
  (pss_one (ps_ret (pe_slice sl_U (pe_fn c_law_mixed (hr.mono (by omega)) (fun _ => out0) (pa_cons (pv 0) (pa_cons (pv 4) pa_nil))) po_none (po_some pe_int))))))))))
theorem ok_law_is_ring {f : Addr} {fd : FuncData} (F : Fun K "_law_is_ring" "_law_is_ring" s_law_is_ring f fd) (T : Txt K mg ad) (c_law_whole : Callee P w K mg base CX0 1 "_law_whole" ["value"] (sp_law_whole K ad)) : FnOk P w K mg base CX0 2 f fd ["bounds", "value"] (sp_law_is_ring K ad) := by
  refine F.ok sc_law_is_ring len_law_is_ring (fun cdv A outer s H vs Q E hr h => ⟨t_law_is_ring K ad, ?_, pure_law_is_ring T vs H Q E h⟩)
  exact (pss_cons (ps_if (PW.pt (pw_or (PW.pt (pw_and (pt_not (pt_tr (pe_callB call_isiU (by rfl) T.b_isinstance (by decide +kernel) (pa_cons (pv 1) (pa_cons (pe_bltn (by rfl) T.b_list (by decide +kernel) rfl) pa_nil))))) (pw_and1 (pt_not (pt_tr (pe_callB call_isiU (by rfl) T.b_isinstance (by decide +kernel) (pa_cons (pv 1) (pa_cons (pe_bltn (by rfl) T.b_tuple (by decide +kernel) rfl) pa_nil)))))))) (pw_or1 (pt_cmpR (op_eqU (hu64 hr)) (pe_callB call_lenU (by rfl) T.b_len (by decide +kernel) (pa_cons (pv 1) pa_nil)) pe_int (nomark _))))) (pss_one (ps_ret pe_bl)) pss_nil)
  (pss_cons (ps_for PassesOwn.never rfl (pi_seq (pv 1)) (pg_name (i := 2) sc_law_is_ring.nd rfl (by first | exact Or.inl rfl | exact Or.inr rfl)) (pss_one (ps_if (PW.pt (pw_or (pt_not (pt_tr (pe_callB call_isiU (by rfl) T.b_isinstance (by decide +kernel) (pa_cons (pv 2) (pa_cons (pe_bltn (by rfl) T.b_tuple (by decide +kernel) rfl) pa_nil))))) (pw_or (pt_cmpR (op_neU (hu64 hr)) (pe_callB call_lenU (by rfl) T.b_len (by decide +kernel) (pa_cons (pv 2) pa_nil)) pe_int (nomark _)) (pw_or (pt_cmpR (op_neU (hu64 hr)) (pe_lc (own := [("item", 3)]) rfl sc_law_is_ring.nd (pi_seq (pv 2)) (blkOk_by (by kernel_rfl)) (fun _ _ _ _ _ => (pg_name (i := 3) sc_law_is_ring.nd rfl (by first | exact Or.inl rfl | exact Or.inr rfl))) (fun _ _ _ _ _ => (pts_one (pt_not (pt_tr (pe_fn c_law_whole (hr.mono (by omega)) (fun _ => out0) (pa_cons (pv 3) pa_nil)))))) (fun _ _ _ _ _ => (pv 3))) (pe_lst pa_nil) (nomark _)) (pw_or1 (pt_cmpR (op_notInU (hu65 hr)) (pv 2) (pv 0) (by rfl))))))) (pss_one (ps_ret pe_bl)) pss_nil)))
  (pss_cons (ps_if (pt_cmpR (op_neU (hu64 hr)) (pe_lc (own := [("k", 4)]) rfl sc_law_is_ring.nd (pi_range1 rfl T.b_range (pa_cons (pe_callB call_lenU (by rfl) T.b_len (by decide +kernel) (pa_cons (pv 1) pa_nil)) pa_nil)) (blkOk_by (by kernel_rfl)) (fun _ _ _ _ _ => (pg_name (i := 4) sc_law_is_ring.nd rfl (by first | exact Or.inl rfl | exact Or.inr rfl))) (fun _ _ _ _ _ => (pts_one (pt_cmpR (op_neU (hu64 hr)) (pe_ix ix_seq (pe_ix ix_seq (pv 1) (pv 4) (fun _ _ => rfl)) pe_int (fun _ _ => rfl)) (pe_ix ix_seq (pe_ix ix_seq (pv 1) (pe_op op_mod (pe_callTy call_intU (by rfl) T.b_int (by decide +kernel) (pa_cons (pe_op op_addU (pv 4) pe_int) pa_nil)) (pe_callB call_lenU (by rfl) T.b_len (by decide +kernel) (pa_cons (pv 1) pa_nil))) (fun _ _ => rfl)) pe_int (fun _ _ => rfl)) (nomark _)))) (fun _ _ _ _ _ => (pv 4))) (pe_lst pa_nil) (nomark _)) (pss_one (ps_ret pe_bl)) pss_nil)
  (pss_one (ps_ret (pe_cmpR op_ltU (pe_callB (cr_sum rfl) (by rfl) T.b_sum (by decide +kernel) (pa_cons (pe_lc (own := [("one", 2)]) rfl sc_law_is_ring.nd (pi_seq (pv 1)) (blkOk_by (by kernel_rfl)) (fun _ _ _ _ _ => (pg_name (i := 2) sc_law_is_ring.nd rfl (by first | exact Or.inl rfl | exact Or.inr rfl))) (fun _ _ _ _ _ => pts_nil) (fun _ _ _ _ _ => (pe_ix ix_seq (pv 2) pe_int (fun _ _ => rfl)))) pa_nil)) pe_int (nomark _)))))))
theorem ok_law_told {f : Addr} {fd : FuncData} (F : Fun K "_law_told" "_law_told" s_law_told f fd) (T : Txt K mg ad) (c_Plan_tight : CalleeM P w K mg base (L2.CX P w) 4 ad.C_Plan "tight" ["self", "one", "other"] (sp_Plan_tight K ad)) (c_kw_Plan_tight_other_one : CalleeMK P w K mg base (L2.CX P w) 4 ad.C_Plan "tight" ["self", "one", "other"] ["other", "one"] kw_Plan_tight_other_one (sp_Plan_tight K ad)) : FnOk P w K mg base CX0 5 f fd ["plan", "one", "other", "way"] (sp_law_told K ad) := by
  obtain ⟨fI_InvalidPoint, T_InvalidPoint⟩ := T.e_InvalidPoint
  obtain ⟨fI_NoPlan, T_NoPlan⟩ := T.e_NoPlan
  refine F.ok sc_law_told len_law_told (fun cdv A outer s H vs Q E hr h => ⟨t_law_told K ad, ?_, pure_law_told T vs H Q E h⟩)
  exact (pss_cons (ps_set (i := 4) sc_law_told.nd rfl (by first | exact Or.inl rfl | exact Or.inr rfl) pe_non)
  (pss_cons (ps_try_cls (tb := fun W => (tAsg (tIf (tTest (tOp (rEqU K) (tVar 3) (tC (.int 0)))) (tMeS ad.C_Plan "tight" (sp_Plan_tight K ad) (WE W) (tVar 0) (tCons (tVar 1) (tCons (tVar 2) tNil))) (tMeK ad.C_Plan "tight" (sp_Plan_tight K ad) kw_Plan_tight_other_one (WE W) (tVar 0) (tCons (tVar 2) (tCons (tVar 1) tNil)))) (gName 4))) (Wout := (fun _ _ _ _ => False)) rfl rfl sc_law_told.nd takes0 (fun W pn xe tk po => (pss_one (ps_set (i := 4) sc_law_told.nd rfl (by first | exact Or.inl rfl | exact Or.inr rfl) (pe_ifExp (pt_cmpR (op_eqU (hu64 hr)) (pv 3) pe_int (nomark _)) (pe_me c_Plan_tight (hr.mono (by omega)) (fun σ => passAt tk σ) (pv 0) (pa_cons (pv 1) (pa_cons (pv 2) pa_nil))) (pe_meK c_kw_Plan_tight_other_one (hr.mono (by omega)) (fun σ => passAt tk σ) (pv 0) (pk_cons (pv 2) (pk_cons (pv 1) pk_nil)))))))
   (ClsOk.named (i := 5) rfl rfl ⟨by rfl, by decide, .inl T_InvalidPoint.gC⟩ (fun a oe cls d pn hz hf => (pss_one (ps_set (i := 4) sc_law_told.nd rfl (by first | exact Or.inl rfl | exact Or.inr rfl) (pe_tup (pa_cons pe_str (pa_cons (pe_xf (ErrC.xf T_InvalidPoint) T_InvalidPoint.noN hz hf (pv 5)) pa_nil)))))) (ClsOk.named (i := 5) rfl rfl ⟨by rfl, by decide, .inl T_NoPlan.gC⟩ (fun a oe cls d pn hz hf => (pss_one (ps_set (i := 4) sc_law_told.nd rfl (by first | exact Or.inl rfl | exact Or.inr rfl) (pe_tup (pa_cons pe_str (pa_cons (pe_xf (ErrC.xf T_NoPlan) T_NoPlan.noN hz hf (pv 5)) pa_nil)))))) ClsOk.nil)))
  (pss_one (ps_ret (pv 4)))))
theorem ok_law_reached {f : Addr} {fd : FuncData} (F : Fun K "_law_reached" "_law_reached" s_law_reached f fd) (T : Txt K mg ad) (c_Plan_init : CalleeC P w K mg base CX0 5 "Plan" ad.C_Plan ["self", "many", "bounds"] (sp_Plan_init K ad)) (c_Plan_ring : CalleeM P w K mg base CX0 3 ad.C_Plan "ring" ["self"] (sp_Plan_ring K ad)) : FnOk P w K mg base CX0 7 f fd ["many", "bounds", "one", "other", "distance"] (sp_law_reached K ad) := by
  refine F.ok sc_law_reached len_law_reached (fun cdv A outer s H vs Q E hr h => ⟨t_law_reached K ad, ?_, pure_law_reached T vs H Q E h⟩)
  exact (pss_cons (ps_for PassesOwn.never rfl (pi_seq (pe_lst (pa_cons (pe_tup (pa_cons pe_int (pa_cons pe_bl pa_nil))) (pa_cons (pe_tup (pa_cons pe_int (pa_cons pe_bl pa_nil))) pa_nil)))) (pg_tup rfl (pgs_cons (pg_name (i := 5) sc_law_reached.nd rfl (by first | exact Or.inl rfl | exact Or.inr rfl)) (pgs_cons (pg_name (i := 6) sc_law_reached.nd rfl (by first | exact Or.inl rfl | exact Or.inr rfl)) pgs_nil))) (pss_cons (ps_set (i := 7) sc_law_reached.nd rfl (by first | exact Or.inl rfl | exact Or.inr rfl) (pe_mk c_Plan_init (hr.mono (by omega)) (fun _ => out0) (pa_cons (pv 0) (pa_cons (pe_op op_addU (pv 1) (pe_lst (pa_cons (pe_tup (pa_cons (pv 3) (pa_cons (pv 2) (pa_cons (pe_op op_sub (pe_un un_neg (pv 4)) (pv 5)) pa_nil)))) pa_nil))) pa_nil))))
  (pss_one (ps_if (pt_cmpR (op_neU (hu64 hr)) (pe_cmpR op_isU (pe_me0 c_Plan_ring (hr.mono (by omega)) (fun _ => out0) (pv 7)) pe_non (nomark _)) (pv 6) (nomark _)) (pss_one (ps_ret pe_bl)) pss_nil))))
  (pss_one (ps_ret pe_bl)))
theorem ok_law_blames {f : Addr} {fd : FuncData} (F : Fun K "_law_blames" "_law_blames" s_law_blames f fd) (T : Txt K mg ad) (c_law_blamed : Callee P w K mg base CX0 5 "_law_blamed" ["given", "value"] (sp_law_blamed K ad)) : FnOk P w K mg base CX0 6 f fd ["told", "value"] (sp_law_blames K ad) := by
  refine F.ok sc_law_blames len_law_blames (fun cdv A outer s H vs Q E hr h => ⟨t_law_blames K ad, ?_, pure_law_blames T vs H Q E h⟩)
  exact (pss_one (ps_ret (pe_andT (pe_callB call_isiU (by rfl) T.b_isinstance (by decide +kernel) (pa_cons (pv 0) (pa_cons (pe_bltn (by rfl) T.b_tuple (by decide +kernel) rfl) pa_nil))) (pe_andT (pe_cmpR (op_eqU (hu64 hr)) (pe_callB call_lenU (by rfl) T.b_len (by decide +kernel) (pa_cons (pv 0) pa_nil)) pe_int (nomark _)) (pe_andT (pe_cmpR (op_eqU (hu64 hr)) (pe_ix ix_seq (pv 0) pe_int (fun _ _ => rfl)) pe_str (nomark _)) (pe_one (pe_fn c_law_blamed (hr.mono (by omega)) (fun _ => out0) (pa_cons (pe_ix ix_seq (pv 0) pe_int (fun _ _ => rfl)) (pa_cons (pv 1) pa_nil)))))))))
theorem ok_law_bad_right {f : Addr} {fd : FuncData} (F : Fun K "_law_bad_right" "_law_bad_right" s_law_bad_right f fd) (T : Txt K mg ad) (c_law_blames : Callee P w K mg base CX0 6 "_law_blames" ["told", "value"] (sp_law_blames K ad)) (c_law_copy : Callee P w K mg base CX0 1 "_law_copy" ["value"] (sp_law_copy K ad)) (c_law_take : Callee P w K mg base CX0 1 "_law_take" ["box", "many"] (sp_law_take K ad)) (c_law_told : Callee P w K mg base CX0 5 "_law_told" ["plan", "one", "other", "way"] (sp_law_told K ad)) : FnOk P w K mg base CX0 7 f fd ["box", "plan", "many", "way"] (sp_law_bad_right K ad) := by
  refine F.ok sc_law_bad_right len_law_bad_right (fun cdv A outer s H vs Q E hr h => ⟨t_law_bad_right K ad, ?_, pure_law_bad_right T vs H Q E h⟩)
  exact (pss_cons (ps_set (i := 4) sc_law_bad_right.nd rfl (by first | exact Or.inl rfl | exact Or.inr rfl) (pe_lst (pa_cons (pv 2) (pa_cons (pe_un un_neg pe_int) (pa_cons pe_bl (pa_cons pe_non (pa_cons pe_str (pa_cons (pe_lst (pa_cons pe_int pa_nil)) (pa_cons (pe_tup (pa_cons pe_int pa_nil)) (pa_cons pe_int pa_nil))))))))))
  (pss_cons (ps_par rfl sc_law_bad_right.nd rfl rfl (by decide) rfl rfl (pa_cons (pe_ix ix_seq (pv 4) (pe_fn c_law_take (hr.mono (by omega)) (fun _ => out0) (pa_cons (pv 0) (pa_cons pe_int pa_nil))) (fun _ _ => rfl)) (pa_cons (pe_ix ix_seq (pv 4) (pe_fn c_law_take (hr.mono (by omega)) (fun _ => out0) (pa_cons (pv 0) (pa_cons pe_int pa_nil))) (fun _ _ => rfl)) pa_nil)) rfl)
  (pss_cons (ps_set (i := 5) sc_law_bad_right.nd rfl (by first | exact Or.inl rfl | exact Or.inr rfl) (pe_fn c_law_copy (hr.mono (by omega)) (fun _ => out0) (pa_cons (pv 5) pa_nil)))
  (pss_cons (ps_if (pt_not (pt_tr (pe_fn c_law_blames (hr.mono (by omega)) (fun _ => out0) (pa_cons (pe_fn c_law_told (hr.mono (by omega)) (fun _ => out0) (pa_cons (pv 1) (pa_cons (pv 5) (pa_cons (pe_fn c_law_copy (hr.mono (by omega)) (fun _ => out0) (pa_cons (pv 6) pa_nil)) (pa_cons (pv 3) pa_nil))))) (pa_cons (pv 5) pa_nil))))) (pss_one (ps_ret pe_bl)) pss_nil)
  (pss_cons (ps_set (i := 6) sc_law_bad_right.nd rfl (by first | exact Or.inl rfl | exact Or.inr rfl) (pe_fn c_law_copy (hr.mono (by omega)) (fun _ => out0) (pa_cons (pv 6) pa_nil)))
  (pss_one (ps_ret (pe_fn c_law_blames (hr.mono (by omega)) (fun _ => out0) (pa_cons (pe_fn c_law_told (hr.mono (by omega)) (fun _ => out0) (pa_cons (pv 1) (pa_cons (pe_fn c_law_take (hr.mono (by omega)) (fun _ => out0) (pa_cons (pv 0) (pa_cons (pv 2) pa_nil))) (pa_cons (pv 6) (pa_cons (pe_op op_sub pe_int (pv 3)) pa_nil))))) (pa_cons (pv 6) pa_nil))))))))))
theorem ok_law_right {f : Addr} {fd : FuncData} (F : Fun K "_law_right" "_law_right" s_law_right f fd) (T : Txt K mg ad) (c_Plan_init : CalleeC P w K mg base CX0 5 "Plan" ad.C_Plan ["self", "many", "bounds"] (sp_Plan_init K ad)) (c_law_bad_right : Callee P w K mg base CX0 7 "_law_bad_right" ["box", "plan", "many", "way"] (sp_law_bad_right K ad)) (c_law_bounds : Callee P w K mg base CX0 3 "_law_bounds" ["box", "many", "rings"] (sp_law_bounds K ad)) (c_law_far : Callee P w K mg base CX0 1 "_law_far" ["many", "bounds"] (sp_law_far K ad)) (c_law_is_ring : Callee P w K mg base CX0 2 "_law_is_ring" ["bounds", "value"] (sp_law_is_ring K ad)) (c_law_reached : Callee P w K mg base CX0 7 "_law_reached" ["many", "bounds", "one", "other", "distance"] (sp_law_reached K ad)) (c_law_same : Callee P w K mg base CX0 4 "_law_same" ["told", "due"] (sp_law_same K ad)) (c_law_take : Callee P w K mg base CX0 1 "_law_take" ["box", "many"] (sp_law_take K ad)) (c_law_told : Callee P w K mg base CX0 5 "_law_told" ["plan", "one", "other", "way"] (sp_law_told K ad)) : FnOk P w K mg base CX0 8 f fd ["box", "many", "rings", "way"] (sp_law_right K ad) := by
  refine F.ok sc_law_right len_law_right (fun cdv A outer s H vs Q E hr h => ⟨t_law_right K ad, ?_, pure_law_right T vs H Q E h⟩)
  exact (pss_cons (ps_set (i := 4) sc_law_right.nd rfl (by first | exact Or.inl rfl | exact Or.inr rfl) (pe_fn c_law_bounds (hr.mono (by omega)) (fun _ => out0) (pa_cons (pv 0) (pa_cons (pv 1) (pa_cons (pe_andT (pv 2) (pe_one (pe_cmpR op_gt (pv 1) pe_int (nomark _)))) pa_nil)))))
  (pss_cons (ps_set (i := 5) sc_law_right.nd rfl (by first | exact Or.inl rfl | exact Or.inr rfl) (pe_mk c_Plan_init (hr.mono (by omega)) (fun _ => out0) (pa_cons (pv 1) (pa_cons (pv 4) pa_nil))))
  (pss_cons (ps_asg (pe_fn c_law_far (hr.mono (by omega)) (fun _ => out0) (pa_cons (pv 1) (pa_cons (pv 4) pa_nil))) (pg_tup rfl (pgs_cons (pg_name (i := 6) sc_law_right.nd rfl (by first | exact Or.inl rfl | exact Or.inr rfl)) (pgs_cons (pg_name (i := 7) sc_law_right.nd rfl (by first | exact Or.inl rfl | exact Or.inr rfl)) pgs_nil))))
  (pss_cons (ps_set (i := 8) sc_law_right.nd rfl (by first | exact Or.inl rfl | exact Or.inr rfl) (pe_op op_addU (pe_lc (own := [("turn", 12)]) rfl sc_law_right.nd (pi_range1 rfl T.b_range (pa_cons pe_int pa_nil)) (blkOk_by (by kernel_rfl)) (fun _ _ _ _ _ => (pg_name (i := 12) sc_law_right.nd rfl (by first | exact Or.inl rfl | exact Or.inr rfl))) (fun _ _ _ _ _ => pts_nil) (fun _ _ _ _ _ => (pe_tup (pa_cons (pe_fn c_law_take (hr.mono (by omega)) (fun _ => out0) (pa_cons (pv 0) (pa_cons (pv 1) pa_nil))) (pa_cons (pe_fn c_law_take (hr.mono (by omega)) (fun _ => out0) (pa_cons (pv 0) (pa_cons (pv 1) pa_nil))) pa_nil))))) (pe_lst (pa_cons (pe_tup (pa_cons pe_int (pa_cons pe_int pa_nil))) pa_nil))))
  (pss_cons (ps_if (pt_cmpR op_ltU (pv 1) pe_int (nomark _)) (pss_cons (ps_set (i := 8) sc_law_right.nd rfl (by first | exact Or.inl rfl | exact Or.inr rfl) (pe_lst pa_nil))
  (pss_one (ps_for PassesOwn.never rfl (pi_range1 rfl T.b_range (pa_cons (pv 1) pa_nil)) (pg_name (i := 9) sc_law_right.nd rfl (by first | exact Or.inl rfl | exact Or.inr rfl)) (pss_one (ps_expr (pe_bm PySem.F.plainAttrs_list PySem.F.slot_list_extend PySem.F.type_list_extend mt_extend (pv 8) (pa_cons (pe_lc (own := [("j", 10)]) rfl sc_law_right.nd (pi_range1 rfl T.b_range (pa_cons (pv 1) pa_nil)) (blkOk_by (by kernel_rfl)) (fun _ _ _ _ _ => (pg_name (i := 10) sc_law_right.nd rfl (by first | exact Or.inl rfl | exact Or.inr rfl))) (fun _ _ _ _ _ => pts_nil) (fun _ _ _ _ _ => (pe_tup (pa_cons (pv 9) (pa_cons (pv 10) pa_nil))))) pa_nil))))))) pss_nil)
  (pss_cons (ps_for PassesOwn.never rfl (pi_seq (pv 8)) (pg_tup rfl (pgs_cons (pg_name (i := 9) sc_law_right.nd rfl (by first | exact Or.inl rfl | exact Or.inr rfl)) (pgs_cons (pg_name (i := 10) sc_law_right.nd rfl (by first | exact Or.inl rfl | exact Or.inr rfl)) pgs_nil))) (pss_cons (ps_set (i := 11) sc_law_right.nd rfl (by first | exact Or.inl rfl | exact Or.inr rfl) (pe_fn c_law_told (hr.mono (by omega)) (fun _ => out0) (pa_cons (pv 5) (pa_cons (pv 9) (pa_cons (pv 10) (pa_cons (pv 3) pa_nil))))))
  (pss_one (ps_if (pt_tr (pv 7)) (pss_cons (ps_if (PW.pt (pw_or (pt_not (pt_tr (pe_callB call_isiU (by rfl) T.b_isinstance (by decide +kernel) (pa_cons (pv 11) (pa_cons (pe_bltn (by rfl) T.b_tuple (by decide +kernel) rfl) pa_nil))))) (pw_or (pt_cmpR (op_neU (hu64 hr)) (pe_callB call_lenU (by rfl) T.b_len (by decide +kernel) (pa_cons (pv 11) pa_nil)) pe_int (nomark _)) (pw_or (pt_cmpR (op_neU (hu64 hr)) (pe_ix ix_seq (pv 11) pe_int (fun _ _ => rfl)) pe_str (nomark _)) (pw_or1 (pt_not (pt_tr (pe_callB call_isiU (by rfl) T.b_isinstance (by decide +kernel) (pa_cons (pe_ix ix_seq (pv 11) pe_int (fun _ _ => rfl)) (pa_cons (pe_bltn (by rfl) T.b_list (by decide +kernel) rfl) pa_nil)))))))))) (pss_one (ps_ret pe_bl)) pss_nil)
  (pss_one (ps_if (pt_not (pt_tr (pe_fn c_law_is_ring (hr.mono (by omega)) (fun _ => out0) (pa_cons (pv 4) (pa_cons (pe_ix ix_seq (pv 11) pe_int (fun _ _ => rfl)) pa_nil))))) (pss_one (ps_ret pe_bl)) pss_nil))) (pss_one (ps_if (PW.pt (pw_or (pt_not (pt_tr (pe_fn c_law_same (hr.mono (by omega)) (fun _ => out0) (pa_cons (pv 11) (pa_cons (pe_ix ix_seq (pe_ix ix_seq (pv 6) (pv 9) (fun _ _ => rfl)) (pv 10) (fun _ _ => rfl)) pa_nil))))) (pw_or1 (pt_not (pt_tr (pe_fn c_law_same (hr.mono (by omega)) (fun _ => out0) (pa_cons (pe_fn c_law_told (hr.mono (by omega)) (fun _ => out0) (pa_cons (pv 5) (pa_cons (pv 9) (pa_cons (pv 10) (pa_cons (pe_op op_sub pe_int (pv 3)) pa_nil))))) (pa_cons (pe_ix ix_seq (pe_ix ix_seq (pv 6) (pv 9) (fun _ _ => rfl)) (pv 10) (fun _ _ => rfl)) pa_nil)))))))) (pss_one (ps_ret pe_bl)) pss_nil))))))
  (pss_cons (ps_if (PW.pt (pw_and (pt_not (pt_tr (pv 7))) (pw_and1 (pt_cmpR op_gt (pv 1) pe_int (nomark _))))) (pss_cons (ps_set (i := 9) sc_law_right.nd rfl (by first | exact Or.inl rfl | exact Or.inr rfl) (pe_fn c_law_take (hr.mono (by omega)) (fun _ => out0) (pa_cons (pv 0) (pa_cons (pv 1) pa_nil))))
  (pss_cons (ps_set (i := 10) sc_law_right.nd rfl (by first | exact Or.inl rfl | exact Or.inr rfl) (pe_op op_mod (pe_callTy call_intU (by rfl) T.b_int (by decide +kernel) (pa_cons (pe_op op_addU (pe_op op_addU (pv 9) pe_int) (pe_fn c_law_take (hr.mono (by omega)) (fun _ => out0) (pa_cons (pv 0) (pa_cons (pe_op op_sub (pv 1) pe_int) pa_nil)))) pa_nil)) (pv 1)))
  (pss_one (ps_if (PW.pt (pw_and (pt_cmpR op_notU (pe_ix ix_seq (pe_ix ix_seq (pv 6) (pv 9) (fun _ _ => rfl)) (pv 10) (fun _ _ => rfl)) pe_non (nomark _)) (pw_and1 (pt_not (pt_tr (pe_fn c_law_reached (hr.mono (by omega)) (fun _ => out0) (pa_cons (pv 1) (pa_cons (pv 4) (pa_cons (pv 9) (pa_cons (pv 10) (pa_cons (pe_ix ix_seq (pe_ix ix_seq (pv 6) (pv 9) (fun _ _ => rfl)) (pv 10) (fun _ _ => rfl)) pa_nil))))))))))) (pss_one (ps_ret pe_bl)) pss_nil)))) pss_nil)
  (pss_one (ps_ret (pe_fn c_law_bad_right (hr.mono (by omega)) (fun _ => out0) (pa_cons (pv 0) (pa_cons (pv 5) (pa_cons (pv 1) (pa_cons (pv 3) pa_nil))))))))))))))
theorem ok_law {f : Addr} {fd : FuncData} (F : Fun K "law" "law" s_law f fd) (T : Txt K mg ad) (c_law_box : Callee P w K mg base CX0 1 "_law_box" ["great"] (sp_law_box K ad)) (c_law_cell : Callee P w K mg base CX0 1 "_law_cell" ["script", "k"] (sp_law_cell K ad)) (c_law_right : Callee P w K mg base CX0 8 "_law_right" ["box", "many", "rings", "way"] (sp_law_right K ad)) (c_law_take : Callee P w K mg base CX0 1 "_law_take" ["box", "many"] (sp_law_take K ad)) : FnOk P w K mg base CX0 9 f fd ["script"] (sp_law K ad) := by
  refine F.ok sc_law len_law (fun cdv A outer s H vs Q E hr h => ⟨t_law K ad, ?_, pure_law T vs H Q E h⟩)
  exact (pss_cons (ps_for PassesOwn.never rfl (pi_range1 rfl T.b_range (pa_cons (pe_callB (call_maxU rfl) (by rfl) T.b_max (by decide +kernel) (pa_cons pe_int (pa_cons (pe_callB (call_minU rfl) (by rfl) T.b_min (by decide +kernel) (pa_cons (pe_callB call_lenU (by rfl) T.b_len (by decide +kernel) (pa_cons (pv 0) pa_nil)) (pa_cons pe_int pa_nil))) pa_nil))) pa_nil)) (pg_name (i := 1) sc_law.nd rfl (by first | exact Or.inl rfl | exact Or.inr rfl)) (pss_cons (ps_set (i := 2) sc_law.nd rfl (by first | exact Or.inl rfl | exact Or.inr rfl) (pe_fn c_law_box (hr.mono (by omega)) (fun _ => out0) (pa_cons (pe_fn c_law_cell (hr.mono (by omega)) (fun _ => out0) (pa_cons (pv 0) (pa_cons (pv 1) pa_nil))) pa_nil)))
  (pss_cons (ps_set (i := 3) sc_law.nd rfl (by first | exact Or.inl rfl | exact Or.inr rfl) (pe_fn c_law_take (hr.mono (by omega)) (fun _ => out0) (pa_cons (pv 2) (pa_cons pe_int pa_nil))))
  (pss_cons (ps_set (i := 4) sc_law.nd rfl (by first | exact Or.inl rfl | exact Or.inr rfl) (pe_cmpR (op_eqU (hu64 hr)) (pe_fn c_law_take (hr.mono (by omega)) (fun _ => out0) (pa_cons (pv 2) (pa_cons pe_int pa_nil))) pe_int (nomark _)))
  (pss_cons (ps_set (i := 5) sc_law.nd rfl (by first | exact Or.inl rfl | exact Or.inr rfl) (pe_ifExp (pt_cmpR (op_eqU (hu64 hr)) (pe_fn c_law_take (hr.mono (by omega)) (fun _ => out0) (pa_cons (pv 2) (pa_cons pe_int pa_nil))) pe_int (nomark _)) (pe_op op_addU pe_int (pe_fn c_law_take (hr.mono (by omega)) (fun _ => out0) (pa_cons (pv 2) (pa_cons pe_int pa_nil)))) (pe_op op_addU pe_int (pe_fn c_law_take (hr.mono (by omega)) (fun _ => out0) (pa_cons (pv 2) (pa_cons pe_int pa_nil))))))
  (pss_one (ps_if (PW.pt (pw_or (pt_not (pt_tr (pe_fn c_law_right (hr.mono (by omega)) (fun _ => out0) (pa_cons (pv 2) (pa_cons (pv 5) (pa_cons (pv 4) (pa_cons (pv 3) pa_nil))))))) (pw_or1 (pt_not (pt_tr (pe_fn c_law_right (hr.mono (by omega)) (fun _ => out0) (pa_cons (pv 2) (pa_cons (pe_op op_addU pe_int (pe_fn c_law_take (hr.mono (by omega)) (fun _ => out0) (pa_cons (pv 2) (pa_cons pe_int pa_nil)))) (pa_cons (pe_notT (pv 4)) (pa_cons (pe_op op_sub pe_int (pv 3)) pa_nil)))))))))) (pss_one (ps_ret pe_bl)) pss_nil)))))))
  (pss_one (ps_ret pe_bl)))
end
end A49
namespace A49
open PySem L2 SK PyProof.Rows
open PySem.W (Frag excInitIn excOver)
def adZ : Ad := { C_StayError := 0, C_InvalidMany := 0, C_InvalidBounds := 0, C_InvalidPoint := 0, C_NoPlan := 0, C_Plan := 0 }
theorem exm_of {K : PySem.W.Frag} {R S : Addr} {b : Bool} (h1 : PySem.W.subIn K (.ref S) (.type "BaseException") = some true) (h2 : PySem.W.isClsIn K S = true) (h3 : PySem.W.typeIn K (.ref S) = some (.type "type")) (h4 : PySem.W.subIn K (.ref R) (.ref S) = some b) :
    PySem.W.exmOne K (.ref R) (.ref S) = some b := by
  have e1 : (PySem.W.subIn K (.ref S) (.type "BaseException") == some true) = true := by rw [h1] <;> rfl
  have h2' : (PySem.W.clsIn K S).isSome = true := h2
  have e2 : ((PySem.W.clsIn K S).isSome && PySem.W.typeIn K (.ref S) == some (.type "type")) = true := by rw [h2', h3] <;> rfl
  show (if (PySem.W.subIn K (.ref S) (.type "BaseException") == some true) = true then (if ((PySem.W.clsIn K S).isSome && PySem.W.typeIn K (.ref S) == some (.type "type")) = true then PySem.W.subIn K (.ref R) (.ref S) else none) else none) = some b
  rw [if_pos e1, if_pos e2]
  exact h4
theorem fn_nothing {P : Program} {w : World} {K : Frag} {mg : Str → Option Value} {base : Heap} {CX : CXT} {k : Nat} {f : Addr} {fd : FuncData} {ps : List Str} : FnOk P w K mg base CX k f fd ps (fun _ _ _ _ => False) := ⟨fun _ _ _ _ h => h.elim, fun _ _ _ _ _ _ _ _ _ _ _ _ _ h => h.elim⟩
theorem kb_kw_Plan_tight_other_one {K : Frag} {f : Addr} {fd : FuncData} (F : Fun K "tight" "Plan.tight" s_Plan_tight f fd) : KBinds K fd ["self", "one", "other"] ["other", "one"] kw_Plan_tight_other_one kw_Plan_tight_other_one := by
  obtain ⟨oc, od, kV, doc, pm, an, cdv, ct, osl, rfl, lk, hcd⟩ := F.ex
  refine ⟨fun s us ws _ hl => ?_, fun {vs us zs ws} r rz => ?_⟩
  · match us, ws, hl with
    | [_], [_, _], _ => exact .of_eq rfl
  · cases r with
    | nil => exact .nil
    | cons h0 r =>
      cases r with
      | cons _ _ => exact .nil
      | nil =>
        cases rz with
        | nil => exact .nil
        | cons h2 rz =>
          cases rz with
          | nil => exact .nil
          | cons h1 rz =>
            cases rz with
            | cons _ _ => exact .nil
            | nil =>
              exact .cons h0 (.cons h1 (.cons h2 .nil))
theorem all_mk {P : Program} {w : World} {K : Frag} {h : Heap} {mg : Str → Option Value} {fa : Addr} {C_InvalidPoint C_NoPlan C_Plan : Addr}
    {f_is_whole : Addr} {od_is_whole an_is_whole : Option Addr} {sl_is_whole : Array (Option Value)} {oc_is_whole kV_is_whole dc_is_whole pm_is_whole cd_is_whole ct_is_whole : Value}
    {f_is_from_to : Addr} {od_is_from_to an_is_from_to : Option Addr} {sl_is_from_to : Array (Option Value)} {oc_is_from_to kV_is_from_to dc_is_from_to pm_is_from_to cd_is_from_to ct_is_from_to : Value}
    {f_is_index : Addr} {od_is_index an_is_index : Option Addr} {sl_is_index : Array (Option Value)} {oc_is_index kV_is_index dc_is_index pm_is_index cd_is_index ct_is_index : Value}
    {f_is_listed : Addr} {od_is_listed an_is_listed : Option Addr} {sl_is_listed : Array (Option Value)} {oc_is_listed kV_is_listed dc_is_listed pm_is_listed cd_is_listed ct_is_listed : Value}
    {f_is_tuple_of : Addr} {od_is_tuple_of an_is_tuple_of : Option Addr} {sl_is_tuple_of : Array (Option Value)} {oc_is_tuple_of kV_is_tuple_of dc_is_tuple_of pm_is_tuple_of cd_is_tuple_of ct_is_tuple_of : Value}
    {f_is_bound : Addr} {od_is_bound an_is_bound : Option Addr} {sl_is_bound : Array (Option Value)} {oc_is_bound kV_is_bound dc_is_bound pm_is_bound cd_is_bound ct_is_bound : Value}
    {f_are_bounds : Addr} {od_are_bounds an_are_bounds : Option Addr} {sl_are_bounds : Array (Option Value)} {oc_are_bounds kV_are_bounds dc_are_bounds pm_are_bounds cd_are_bounds ct_are_bounds : Value}
    {f_lengths_from : Addr} {od_lengths_from an_lengths_from : Option Addr} {sl_lengths_from : Array (Option Value)} {oc_lengths_from kV_lengths_from dc_lengths_from pm_lengths_from cd_lengths_from ct_lengths_from : Value}
    {f_last_lowered : Addr} {od_last_lowered an_last_lowered : Option Addr} {sl_last_lowered : Array (Option Value)} {oc_last_lowered kV_last_lowered dc_last_lowered pm_last_lowered cd_last_lowered ct_last_lowered : Value}
    {f_ring_in : Addr} {od_ring_in an_ring_in : Option Addr} {sl_ring_in : Array (Option Value)} {oc_ring_in kV_ring_in dc_ring_in pm_ring_in cd_ring_in ct_ring_in : Value}
    {f_Plan_init : Addr} {od_Plan_init an_Plan_init : Option Addr} {sl_Plan_init : Array (Option Value)} {oc_Plan_init kV_Plan_init dc_Plan_init pm_Plan_init cd_Plan_init ct_Plan_init : Value}
    {f_Plan_ring : Addr} {od_Plan_ring an_Plan_ring : Option Addr} {sl_Plan_ring : Array (Option Value)} {oc_Plan_ring kV_Plan_ring dc_Plan_ring pm_Plan_ring cd_Plan_ring ct_Plan_ring : Value}
    {f_Plan_tight : Addr} {od_Plan_tight an_Plan_tight : Option Addr} {sl_Plan_tight : Array (Option Value)} {oc_Plan_tight kV_Plan_tight dc_Plan_tight pm_Plan_tight cd_Plan_tight ct_Plan_tight : Value}
    {f_law_cell : Addr} {od_law_cell an_law_cell : Option Addr} {sl_law_cell : Array (Option Value)} {oc_law_cell kV_law_cell dc_law_cell pm_law_cell cd_law_cell ct_law_cell : Value}
    {f_law_box : Addr} {od_law_box an_law_box : Option Addr} {sl_law_box : Array (Option Value)} {oc_law_box kV_law_box dc_law_box pm_law_box cd_law_box ct_law_box : Value}
    {f_law_take : Addr} {od_law_take an_law_take : Option Addr} {sl_law_take : Array (Option Value)} {oc_law_take kV_law_take dc_law_take pm_law_take cd_law_take ct_law_take : Value}
    {f_law_mixed : Addr} {od_law_mixed an_law_mixed : Option Addr} {sl_law_mixed : Array (Option Value)} {oc_law_mixed kV_law_mixed dc_law_mixed pm_law_mixed cd_law_mixed ct_law_mixed : Value}
    {f_law_same : Addr} {od_law_same an_law_same : Option Addr} {sl_law_same : Array (Option Value)} {oc_law_same kV_law_same dc_law_same pm_law_same cd_law_same ct_law_same : Value}
    {f_law_whole : Addr} {od_law_whole an_law_whole : Option Addr} {sl_law_whole : Array (Option Value)} {oc_law_whole kV_law_whole dc_law_whole pm_law_whole cd_law_whole ct_law_whole : Value}
    {f_law_blamed : Addr} {od_law_blamed an_law_blamed : Option Addr} {sl_law_blamed : Array (Option Value)} {oc_law_blamed kV_law_blamed dc_law_blamed pm_law_blamed cd_law_blamed ct_law_blamed : Value}
    {f_law_copy : Addr} {od_law_copy an_law_copy : Option Addr} {sl_law_copy : Array (Option Value)} {oc_law_copy kV_law_copy dc_law_copy pm_law_copy cd_law_copy ct_law_copy : Value}
    {f_law_far : Addr} {od_law_far an_law_far : Option Addr} {sl_law_far : Array (Option Value)} {oc_law_far kV_law_far dc_law_far pm_law_far cd_law_far ct_law_far : Value}
    {f_law_bounds : Addr} {od_law_bounds an_law_bounds : Option Addr} {sl_law_bounds : Array (Option Value)} {oc_law_bounds kV_law_bounds dc_law_bounds pm_law_bounds cd_law_bounds ct_law_bounds : Value}
    {f_law_is_ring : Addr} {od_law_is_ring an_law_is_ring : Option Addr} {sl_law_is_ring : Array (Option Value)} {oc_law_is_ring kV_law_is_ring dc_law_is_ring pm_law_is_ring cd_law_is_ring ct_law_is_ring : Value}
    {f_law_told : Addr} {od_law_told an_law_told : Option Addr} {sl_law_told : Array (Option Value)} {oc_law_told kV_law_told dc_law_told pm_law_told cd_law_told ct_law_told : Value}
    {f_law_reached : Addr} {od_law_reached an_law_reached : Option Addr} {sl_law_reached : Array (Option Value)} {oc_law_reached kV_law_reached dc_law_reached pm_law_reached cd_law_reached ct_law_reached : Value}
    {f_law_blames : Addr} {od_law_blames an_law_blames : Option Addr} {sl_law_blames : Array (Option Value)} {oc_law_blames kV_law_blames dc_law_blames pm_law_blames cd_law_blames ct_law_blames : Value}
    {f_law_bad_right : Addr} {od_law_bad_right an_law_bad_right : Option Addr} {sl_law_bad_right : Array (Option Value)} {oc_law_bad_right kV_law_bad_right dc_law_bad_right pm_law_bad_right cd_law_bad_right ct_law_bad_right : Value}
    {f_law_right : Addr} {od_law_right an_law_right : Option Addr} {sl_law_right : Array (Option Value)} {oc_law_right kV_law_right dc_law_right pm_law_right cd_law_right ct_law_right : Value}
    {f_law : Addr} {od_law an_law : Option Addr} {sl_law : Array (Option Value)} {oc_law kV_law dc_law pm_law cd_law ct_law : Value}
    {fI_InvalidPoint : Addr} {oc_InvalidPoint dc_InvalidPoint pm_InvalidPoint cd_InvalidPoint ct_InvalidPoint : Value} {od_InvalidPoint an_InvalidPoint : Option Addr} {sl_InvalidPoint : Array (Option Value)}
    {fI_NoPlan : Addr} {oc_NoPlan dc_NoPlan pm_NoPlan cd_NoPlan ct_NoPlan : Value} {od_NoPlan an_NoPlan : Option Addr} {sl_NoPlan : Array (Option Value)}
    {tk_MOST_POINTS : Tok}
    (X : K.In h) (G : h.Ns mainGlobals mg) (hfa : mg "law" = some (.ref fa))
    (g_Plan : PySem.W.nsIn K mainGlobals "Plan" = some (some (.ref C_Plan)))
    (pg_Plan : PySem.W.plainGet K C_Plan Str.empty = true)
    (hd_Plan : PySem.W.hasDictIn K C_Plan = true)
    (po_Plan : PySem.W.plainOver K C_Plan = true)
    (sa_Plan : PySem.W.findIn K (.ref C_Plan) "__setattr__" = some (some (.builtin "object.__setattr__")))
    (mk_Plan : PySem.W.makesIn K C_Plan = true)
    (kc_Plan : PySem.W.keepIn K (.ref C_Plan) = true)
    (a_is_whole : PySem.W.nsIn K mainGlobals "is_whole" = some (some (.ref f_is_whole)))
    (l_is_whole : K.lookup f_is_whole = some ⟨oc_is_whole, od_is_whole, .func (PySem.W.fnOf "is_whole" "is_whole" (defArgs s_is_whole) (defBody s_is_whole) (defScope s_is_whole) .none kV_is_whole dc_is_whole pm_is_whole an_is_whole cd_is_whole ct_is_whole), sl_is_whole⟩)
    (c_is_whole : PySem.W.codeIn K cd_is_whole "is_whole" = true)
    (k_is_whole : PySem.W.keepIn K (.ref f_is_whole) = true)
    (a_is_from_to : PySem.W.nsIn K mainGlobals "is_from_to" = some (some (.ref f_is_from_to)))
    (l_is_from_to : K.lookup f_is_from_to = some ⟨oc_is_from_to, od_is_from_to, .func (PySem.W.fnOf "is_from_to" "is_from_to" (defArgs s_is_from_to) (defBody s_is_from_to) (defScope s_is_from_to) .none kV_is_from_to dc_is_from_to pm_is_from_to an_is_from_to cd_is_from_to ct_is_from_to), sl_is_from_to⟩)
    (c_is_from_to : PySem.W.codeIn K cd_is_from_to "is_from_to" = true)
    (k_is_from_to : PySem.W.keepIn K (.ref f_is_from_to) = true)
    (a_is_index : PySem.W.nsIn K mainGlobals "is_index" = some (some (.ref f_is_index)))
    (l_is_index : K.lookup f_is_index = some ⟨oc_is_index, od_is_index, .func (PySem.W.fnOf "is_index" "is_index" (defArgs s_is_index) (defBody s_is_index) (defScope s_is_index) .none kV_is_index dc_is_index pm_is_index an_is_index cd_is_index ct_is_index), sl_is_index⟩)
    (c_is_index : PySem.W.codeIn K cd_is_index "is_index" = true)
    (k_is_index : PySem.W.keepIn K (.ref f_is_index) = true)
    (a_is_listed : PySem.W.nsIn K mainGlobals "is_listed" = some (some (.ref f_is_listed)))
    (l_is_listed : K.lookup f_is_listed = some ⟨oc_is_listed, od_is_listed, .func (PySem.W.fnOf "is_listed" "is_listed" (defArgs s_is_listed) (defBody s_is_listed) (defScope s_is_listed) .none kV_is_listed dc_is_listed pm_is_listed an_is_listed cd_is_listed ct_is_listed), sl_is_listed⟩)
    (c_is_listed : PySem.W.codeIn K cd_is_listed "is_listed" = true)
    (k_is_listed : PySem.W.keepIn K (.ref f_is_listed) = true)
    (a_is_tuple_of : PySem.W.nsIn K mainGlobals "is_tuple_of" = some (some (.ref f_is_tuple_of)))
    (l_is_tuple_of : K.lookup f_is_tuple_of = some ⟨oc_is_tuple_of, od_is_tuple_of, .func (PySem.W.fnOf "is_tuple_of" "is_tuple_of" (defArgs s_is_tuple_of) (defBody s_is_tuple_of) (defScope s_is_tuple_of) .none kV_is_tuple_of dc_is_tuple_of pm_is_tuple_of an_is_tuple_of cd_is_tuple_of ct_is_tuple_of), sl_is_tuple_of⟩)
    (c_is_tuple_of : PySem.W.codeIn K cd_is_tuple_of "is_tuple_of" = true)
    (k_is_tuple_of : PySem.W.keepIn K (.ref f_is_tuple_of) = true)
    (a_is_bound : PySem.W.nsIn K mainGlobals "is_bound" = some (some (.ref f_is_bound)))
    (l_is_bound : K.lookup f_is_bound = some ⟨oc_is_bound, od_is_bound, .func (PySem.W.fnOf "is_bound" "is_bound" (defArgs s_is_bound) (defBody s_is_bound) (defScope s_is_bound) .none kV_is_bound dc_is_bound pm_is_bound an_is_bound cd_is_bound ct_is_bound), sl_is_bound⟩)
    (c_is_bound : PySem.W.codeIn K cd_is_bound "is_bound" = true)
    (k_is_bound : PySem.W.keepIn K (.ref f_is_bound) = true)
    (a_are_bounds : PySem.W.nsIn K mainGlobals "are_bounds" = some (some (.ref f_are_bounds)))
    (l_are_bounds : K.lookup f_are_bounds = some ⟨oc_are_bounds, od_are_bounds, .func (PySem.W.fnOf "are_bounds" "are_bounds" (defArgs s_are_bounds) (defBody s_are_bounds) (defScope s_are_bounds) .none kV_are_bounds dc_are_bounds pm_are_bounds an_are_bounds cd_are_bounds ct_are_bounds), sl_are_bounds⟩)
    (c_are_bounds : PySem.W.codeIn K cd_are_bounds "are_bounds" = true)
    (k_are_bounds : PySem.W.keepIn K (.ref f_are_bounds) = true)
    (a_lengths_from : PySem.W.nsIn K mainGlobals "lengths_from" = some (some (.ref f_lengths_from)))
    (l_lengths_from : K.lookup f_lengths_from = some ⟨oc_lengths_from, od_lengths_from, .func (PySem.W.fnOf "lengths_from" "lengths_from" (defArgs s_lengths_from) (defBody s_lengths_from) (defScope s_lengths_from) .none kV_lengths_from dc_lengths_from pm_lengths_from an_lengths_from cd_lengths_from ct_lengths_from), sl_lengths_from⟩)
    (c_lengths_from : PySem.W.codeIn K cd_lengths_from "lengths_from" = true)
    (k_lengths_from : PySem.W.keepIn K (.ref f_lengths_from) = true)
    (a_last_lowered : PySem.W.nsIn K mainGlobals "last_lowered" = some (some (.ref f_last_lowered)))
    (l_last_lowered : K.lookup f_last_lowered = some ⟨oc_last_lowered, od_last_lowered, .func (PySem.W.fnOf "last_lowered" "last_lowered" (defArgs s_last_lowered) (defBody s_last_lowered) (defScope s_last_lowered) .none kV_last_lowered dc_last_lowered pm_last_lowered an_last_lowered cd_last_lowered ct_last_lowered), sl_last_lowered⟩)
    (c_last_lowered : PySem.W.codeIn K cd_last_lowered "last_lowered" = true)
    (k_last_lowered : PySem.W.keepIn K (.ref f_last_lowered) = true)
    (a_ring_in : PySem.W.nsIn K mainGlobals "ring_in" = some (some (.ref f_ring_in)))
    (l_ring_in : K.lookup f_ring_in = some ⟨oc_ring_in, od_ring_in, .func (PySem.W.fnOf "ring_in" "ring_in" (defArgs s_ring_in) (defBody s_ring_in) (defScope s_ring_in) .none kV_ring_in dc_ring_in pm_ring_in an_ring_in cd_ring_in ct_ring_in), sl_ring_in⟩)
    (c_ring_in : PySem.W.codeIn K cd_ring_in "ring_in" = true)
    (k_ring_in : PySem.W.keepIn K (.ref f_ring_in) = true)
    (a_Plan_init : PySem.W.findIn K (.ref C_Plan) "__init__" = some (some (.ref f_Plan_init)))
    (i_Plan_init : PySem.W.isFn K (.ref f_Plan_init) = true)
    (l_Plan_init : K.lookup f_Plan_init = some ⟨oc_Plan_init, od_Plan_init, .func (PySem.W.fnOf "__init__" "Plan.__init__" (defArgs s_Plan_init) (defBody s_Plan_init) (defScope s_Plan_init) .none kV_Plan_init dc_Plan_init pm_Plan_init an_Plan_init cd_Plan_init ct_Plan_init), sl_Plan_init⟩)
    (c_Plan_init : PySem.W.codeIn K cd_Plan_init "Plan.__init__" = true)
    (k_Plan_init : PySem.W.keepIn K (.ref f_Plan_init) = true)
    (a_Plan_ring : PySem.W.findIn K (.ref C_Plan) "ring" = some (some (.ref f_Plan_ring)))
    (i_Plan_ring : PySem.W.isFn K (.ref f_Plan_ring) = true)
    (l_Plan_ring : K.lookup f_Plan_ring = some ⟨oc_Plan_ring, od_Plan_ring, .func (PySem.W.fnOf "ring" "Plan.ring" (defArgs s_Plan_ring) (defBody s_Plan_ring) (defScope s_Plan_ring) .none kV_Plan_ring dc_Plan_ring pm_Plan_ring an_Plan_ring cd_Plan_ring ct_Plan_ring), sl_Plan_ring⟩)
    (c_Plan_ring : PySem.W.codeIn K cd_Plan_ring "Plan.ring" = true)
    (k_Plan_ring : PySem.W.keepIn K (.ref f_Plan_ring) = true)
    (a_Plan_tight : PySem.W.findIn K (.ref C_Plan) "tight" = some (some (.ref f_Plan_tight)))
    (i_Plan_tight : PySem.W.isFn K (.ref f_Plan_tight) = true)
    (l_Plan_tight : K.lookup f_Plan_tight = some ⟨oc_Plan_tight, od_Plan_tight, .func (PySem.W.fnOf "tight" "Plan.tight" (defArgs s_Plan_tight) (defBody s_Plan_tight) (defScope s_Plan_tight) .none kV_Plan_tight dc_Plan_tight pm_Plan_tight an_Plan_tight cd_Plan_tight ct_Plan_tight), sl_Plan_tight⟩)
    (c_Plan_tight : PySem.W.codeIn K cd_Plan_tight "Plan.tight" = true)
    (k_Plan_tight : PySem.W.keepIn K (.ref f_Plan_tight) = true)
    (a_law_cell : PySem.W.nsIn K mainGlobals "_law_cell" = some (some (.ref f_law_cell)))
    (l_law_cell : K.lookup f_law_cell = some ⟨oc_law_cell, od_law_cell, .func (PySem.W.fnOf "_law_cell" "_law_cell" (defArgs s_law_cell) (defBody s_law_cell) (defScope s_law_cell) .none kV_law_cell dc_law_cell pm_law_cell an_law_cell cd_law_cell ct_law_cell), sl_law_cell⟩)
    (c_law_cell : PySem.W.codeIn K cd_law_cell "_law_cell" = true)
    (k_law_cell : PySem.W.keepIn K (.ref f_law_cell) = true)
    (a_law_box : PySem.W.nsIn K mainGlobals "_law_box" = some (some (.ref f_law_box)))
    (l_law_box : K.lookup f_law_box = some ⟨oc_law_box, od_law_box, .func (PySem.W.fnOf "_law_box" "_law_box" (defArgs s_law_box) (defBody s_law_box) (defScope s_law_box) .none kV_law_box dc_law_box pm_law_box an_law_box cd_law_box ct_law_box), sl_law_box⟩)
    (c_law_box : PySem.W.codeIn K cd_law_box "_law_box" = true)
    (k_law_box : PySem.W.keepIn K (.ref f_law_box) = true)
    (a_law_take : PySem.W.nsIn K mainGlobals "_law_take" = some (some (.ref f_law_take)))
    (l_law_take : K.lookup f_law_take = some ⟨oc_law_take, od_law_take, .func (PySem.W.fnOf "_law_take" "_law_take" (defArgs s_law_take) (defBody s_law_take) (defScope s_law_take) .none kV_law_take dc_law_take pm_law_take an_law_take cd_law_take ct_law_take), sl_law_take⟩)
    (c_law_take : PySem.W.codeIn K cd_law_take "_law_take" = true)
    (k_law_take : PySem.W.keepIn K (.ref f_law_take) = true)
    (a_law_mixed : PySem.W.nsIn K mainGlobals "_law_mixed" = some (some (.ref f_law_mixed)))
    (l_law_mixed : K.lookup f_law_mixed = some ⟨oc_law_mixed, od_law_mixed, .func (PySem.W.fnOf "_law_mixed" "_law_mixed" (defArgs s_law_mixed) (defBody s_law_mixed) (defScope s_law_mixed) .none kV_law_mixed dc_law_mixed pm_law_mixed an_law_mixed cd_law_mixed ct_law_mixed), sl_law_mixed⟩)
    (c_law_mixed : PySem.W.codeIn K cd_law_mixed "_law_mixed" = true)
    (k_law_mixed : PySem.W.keepIn K (.ref f_law_mixed) = true)
    (a_law_same : PySem.W.nsIn K mainGlobals "_law_same" = some (some (.ref f_law_same)))
    (l_law_same : K.lookup f_law_same = some ⟨oc_law_same, od_law_same, .func (PySem.W.fnOf "_law_same" "_law_same" (defArgs s_law_same) (defBody s_law_same) (defScope s_law_same) .none kV_law_same dc_law_same pm_law_same an_law_same cd_law_same ct_law_same), sl_law_same⟩)
    (c_law_same : PySem.W.codeIn K cd_law_same "_law_same" = true)
    (k_law_same : PySem.W.keepIn K (.ref f_law_same) = true)
    (a_law_whole : PySem.W.nsIn K mainGlobals "_law_whole" = some (some (.ref f_law_whole)))
    (l_law_whole : K.lookup f_law_whole = some ⟨oc_law_whole, od_law_whole, .func (PySem.W.fnOf "_law_whole" "_law_whole" (defArgs s_law_whole) (defBody s_law_whole) (defScope s_law_whole) .none kV_law_whole dc_law_whole pm_law_whole an_law_whole cd_law_whole ct_law_whole), sl_law_whole⟩)
    (c_law_whole : PySem.W.codeIn K cd_law_whole "_law_whole" = true)
    (k_law_whole : PySem.W.keepIn K (.ref f_law_whole) = true)
    (a_law_blamed : PySem.W.nsIn K mainGlobals "_law_blamed" = some (some (.ref f_law_blamed)))
    (l_law_blamed : K.lookup f_law_blamed = some ⟨oc_law_blamed, od_law_blamed, .func (PySem.W.fnOf "_law_blamed" "_law_blamed" (defArgs s_law_blamed) (defBody s_law_blamed) (defScope s_law_blamed) .none kV_law_blamed dc_law_blamed pm_law_blamed an_law_blamed cd_law_blamed ct_law_blamed), sl_law_blamed⟩)
    (c_law_blamed : PySem.W.codeIn K cd_law_blamed "_law_blamed" = true)
    (k_law_blamed : PySem.W.keepIn K (.ref f_law_blamed) = true)
    (a_law_copy : PySem.W.nsIn K mainGlobals "_law_copy" = some (some (.ref f_law_copy)))
    (l_law_copy : K.lookup f_law_copy = some ⟨oc_law_copy, od_law_copy, .func (PySem.W.fnOf "_law_copy" "_law_copy" (defArgs s_law_copy) (defBody s_law_copy) (defScope s_law_copy) .none kV_law_copy dc_law_copy pm_law_copy an_law_copy cd_law_copy ct_law_copy), sl_law_copy⟩)
    (c_law_copy : PySem.W.codeIn K cd_law_copy "_law_copy" = true)
    (k_law_copy : PySem.W.keepIn K (.ref f_law_copy) = true)
    (a_law_far : PySem.W.nsIn K mainGlobals "_law_far" = some (some (.ref f_law_far)))
    (l_law_far : K.lookup f_law_far = some ⟨oc_law_far, od_law_far, .func (PySem.W.fnOf "_law_far" "_law_far" (defArgs s_law_far) (defBody s_law_far) (defScope s_law_far) .none kV_law_far dc_law_far pm_law_far an_law_far cd_law_far ct_law_far), sl_law_far⟩)
    (c_law_far : PySem.W.codeIn K cd_law_far "_law_far" = true)
    (k_law_far : PySem.W.keepIn K (.ref f_law_far) = true)
    (a_law_bounds : PySem.W.nsIn K mainGlobals "_law_bounds" = some (some (.ref f_law_bounds)))
    (l_law_bounds : K.lookup f_law_bounds = some ⟨oc_law_bounds, od_law_bounds, .func (PySem.W.fnOf "_law_bounds" "_law_bounds" (defArgs s_law_bounds) (defBody s_law_bounds) (defScope s_law_bounds) .none kV_law_bounds dc_law_bounds pm_law_bounds an_law_bounds cd_law_bounds ct_law_bounds), sl_law_bounds⟩)
    (c_law_bounds : PySem.W.codeIn K cd_law_bounds "_law_bounds" = true)
    (k_law_bounds : PySem.W.keepIn K (.ref f_law_bounds) = true)
    (a_law_is_ring : PySem.W.nsIn K mainGlobals "_law_is_ring" = some (some (.ref f_law_is_ring)))
    (l_law_is_ring : K.lookup f_law_is_ring = some ⟨oc_law_is_ring, od_law_is_ring, .func (PySem.W.fnOf "_law_is_ring" "_law_is_ring" (defArgs s_law_is_ring) (defBody s_law_is_ring) (defScope s_law_is_ring) .none kV_law_is_ring dc_law_is_ring pm_law_is_ring an_law_is_ring cd_law_is_ring ct_law_is_ring), sl_law_is_ring⟩)
    (c_law_is_ring : PySem.W.codeIn K cd_law_is_ring "_law_is_ring" = true)
    (k_law_is_ring : PySem.W.keepIn K (.ref f_law_is_ring) = true)
    (a_law_told : PySem.W.nsIn K mainGlobals "_law_told" = some (some (.ref f_law_told)))
    (l_law_told : K.lookup f_law_told = some ⟨oc_law_told, od_law_told, .func (PySem.W.fnOf "_law_told" "_law_told" (defArgs s_law_told) (defBody s_law_told) (defScope s_law_told) .none kV_law_told dc_law_told pm_law_told an_law_told cd_law_told ct_law_told), sl_law_told⟩)
    (c_law_told : PySem.W.codeIn K cd_law_told "_law_told" = true)
    (k_law_told : PySem.W.keepIn K (.ref f_law_told) = true)
    (a_law_reached : PySem.W.nsIn K mainGlobals "_law_reached" = some (some (.ref f_law_reached)))
    (l_law_reached : K.lookup f_law_reached = some ⟨oc_law_reached, od_law_reached, .func (PySem.W.fnOf "_law_reached" "_law_reached" (defArgs s_law_reached) (defBody s_law_reached) (defScope s_law_reached) .none kV_law_reached dc_law_reached pm_law_reached an_law_reached cd_law_reached ct_law_reached), sl_law_reached⟩)
    (c_law_reached : PySem.W.codeIn K cd_law_reached "_law_reached" = true)
    (k_law_reached : PySem.W.keepIn K (.ref f_law_reached) = true)
    (a_law_blames : PySem.W.nsIn K mainGlobals "_law_blames" = some (some (.ref f_law_blames)))
    (l_law_blames : K.lookup f_law_blames = some ⟨oc_law_blames, od_law_blames, .func (PySem.W.fnOf "_law_blames" "_law_blames" (defArgs s_law_blames) (defBody s_law_blames) (defScope s_law_blames) .none kV_law_blames dc_law_blames pm_law_blames an_law_blames cd_law_blames ct_law_blames), sl_law_blames⟩)
    (c_law_blames : PySem.W.codeIn K cd_law_blames "_law_blames" = true)
    (k_law_blames : PySem.W.keepIn K (.ref f_law_blames) = true)
    (a_law_bad_right : PySem.W.nsIn K mainGlobals "_law_bad_right" = some (some (.ref f_law_bad_right)))
    (l_law_bad_right : K.lookup f_law_bad_right = some ⟨oc_law_bad_right, od_law_bad_right, .func (PySem.W.fnOf "_law_bad_right" "_law_bad_right" (defArgs s_law_bad_right) (defBody s_law_bad_right) (defScope s_law_bad_right) .none kV_law_bad_right dc_law_bad_right pm_law_bad_right an_law_bad_right cd_law_bad_right ct_law_bad_right), sl_law_bad_right⟩)
    (c_law_bad_right : PySem.W.codeIn K cd_law_bad_right "_law_bad_right" = true)
    (k_law_bad_right : PySem.W.keepIn K (.ref f_law_bad_right) = true)
    (a_law_right : PySem.W.nsIn K mainGlobals "_law_right" = some (some (.ref f_law_right)))
    (l_law_right : K.lookup f_law_right = some ⟨oc_law_right, od_law_right, .func (PySem.W.fnOf "_law_right" "_law_right" (defArgs s_law_right) (defBody s_law_right) (defScope s_law_right) .none kV_law_right dc_law_right pm_law_right an_law_right cd_law_right ct_law_right), sl_law_right⟩)
    (c_law_right : PySem.W.codeIn K cd_law_right "_law_right" = true)
    (k_law_right : PySem.W.keepIn K (.ref f_law_right) = true)
    (a_law : PySem.W.nsIn K mainGlobals "law" = some (some (.ref f_law)))
    (l_law : K.lookup f_law = some ⟨oc_law, od_law, .func (PySem.W.fnOf "law" "law" (defArgs s_law) (defBody s_law) (defScope s_law) .none kV_law dc_law pm_law an_law cd_law ct_law), sl_law⟩)
    (c_law : PySem.W.codeIn K cd_law "law" = true)
    (k_law : PySem.W.keepIn K (.ref f_law) = true)
    (z_b_abs : PySem.W.nsIn K mainGlobals "abs" = some none)
    (z_b_all : PySem.W.nsIn K mainGlobals "all" = some none)
    (z_b_bool : PySem.W.nsIn K mainGlobals "bool" = some none)
    (z_b_int : PySem.W.nsIn K mainGlobals "int" = some none)
    (z_b_isinstance : PySem.W.nsIn K mainGlobals "isinstance" = some none)
    (z_b_len : PySem.W.nsIn K mainGlobals "len" = some none)
    (z_b_list : PySem.W.nsIn K mainGlobals "list" = some none)
    (z_b_max : PySem.W.nsIn K mainGlobals "max" = some none)
    (z_b_min : PySem.W.nsIn K mainGlobals "min" = some none)
    (z_b_range : PySem.W.nsIn K mainGlobals "range" = some none)
    (z_b_str : PySem.W.nsIn K mainGlobals "str" = some none)
    (z_b_sum : PySem.W.nsIn K mainGlobals "sum" = some none)
    (z_b_tuple : PySem.W.nsIn K mainGlobals "tuple" = some none)
    (z_n_Plan_many : PySem.W.findIn K (.ref C_Plan) "many" = some none)
    (z_n_Plan_bounds : PySem.W.findIn K (.ref C_Plan) "bounds" = some none)
    (e1_InvalidPoint : PySem.W.nsIn K mainGlobals "InvalidPoint" = some (some (.ref C_InvalidPoint)))
    (e2_InvalidPoint : excInitIn K C_InvalidPoint SE.tailE "Exception.__new__" = true)
    (e3_InvalidPoint : excOver K C_InvalidPoint SE.tailE = true)
    (e4_InvalidPoint : PySem.W.findIn K (.ref C_InvalidPoint) "__setattr__" = some (some (.builtin "object.__setattr__")))
    (e5_InvalidPoint : PySem.W.findIn K (.ref C_InvalidPoint) "__getattribute__" = some (some (.builtin "BaseException.__getattribute__")))
    (e6_InvalidPoint : PySem.W.findIn K (.ref C_InvalidPoint) "__getattr__" = some none)
    (e7_InvalidPoint : PySem.W.findIn K (.ref C_InvalidPoint) "given" = some none)
    (e8_InvalidPoint : PySem.W.findIn K (.ref C_InvalidPoint) "__init__" = some (some (.ref fI_InvalidPoint)))
    (e9_InvalidPoint : PySem.W.typeIn K (.ref fI_InvalidPoint) = some (.type "function"))
    (e10_InvalidPoint : PySem.W.keepIn K (.ref C_InvalidPoint) = true)
    (e11_InvalidPoint : PySem.W.subIn K (.ref C_InvalidPoint) (.type "BaseException") = some true)
    (e12_InvalidPoint : PySem.W.typeIn K (.ref C_InvalidPoint) = some (.type "type"))
    (e13_InvalidPoint : PySem.W.hasDictIn K C_InvalidPoint = true)
    (e14_InvalidPoint : PySem.W.isClsIn K C_InvalidPoint = true)
    (e15_InvalidPoint : PySem.W.subIn K (.ref C_InvalidPoint) (.ref C_InvalidPoint) = some true)
    (e16_InvalidPoint : K.lookup fI_InvalidPoint = some ⟨oc_InvalidPoint, od_InvalidPoint, .func (PySem.W.fnOf "__init__" "InvalidPoint.__init__" (SE.iA "given" ⟨17, 17, 17, 21⟩ ⟨17, 23, 17, 28⟩) (SE.iB "given" ⟨18, 8, 18, 12⟩ ⟨18, 8, 18, 18⟩ ⟨18, 21, 18, 26⟩ ⟨18, 8, 18, 26⟩) (SE.iS "given") .none .none dc_InvalidPoint pm_InvalidPoint an_InvalidPoint cd_InvalidPoint ct_InvalidPoint), sl_InvalidPoint⟩)
    (e17_InvalidPoint : PySem.W.codeIn K cd_InvalidPoint "InvalidPoint.__init__" = true)
    (e1_NoPlan : PySem.W.nsIn K mainGlobals "NoPlan" = some (some (.ref C_NoPlan)))
    (e2_NoPlan : excInitIn K C_NoPlan SE.tailE "Exception.__new__" = true)
    (e3_NoPlan : excOver K C_NoPlan SE.tailE = true)
    (e4_NoPlan : PySem.W.findIn K (.ref C_NoPlan) "__setattr__" = some (some (.builtin "object.__setattr__")))
    (e5_NoPlan : PySem.W.findIn K (.ref C_NoPlan) "__getattribute__" = some (some (.builtin "BaseException.__getattribute__")))
    (e6_NoPlan : PySem.W.findIn K (.ref C_NoPlan) "__getattr__" = some none)
    (e7_NoPlan : PySem.W.findIn K (.ref C_NoPlan) "ring" = some none)
    (e8_NoPlan : PySem.W.findIn K (.ref C_NoPlan) "__init__" = some (some (.ref fI_NoPlan)))
    (e9_NoPlan : PySem.W.typeIn K (.ref fI_NoPlan) = some (.type "function"))
    (e10_NoPlan : PySem.W.keepIn K (.ref C_NoPlan) = true)
    (e11_NoPlan : PySem.W.subIn K (.ref C_NoPlan) (.type "BaseException") = some true)
    (e12_NoPlan : PySem.W.typeIn K (.ref C_NoPlan) = some (.type "type"))
    (e13_NoPlan : PySem.W.hasDictIn K C_NoPlan = true)
    (e14_NoPlan : PySem.W.isClsIn K C_NoPlan = true)
    (e15_NoPlan : PySem.W.subIn K (.ref C_NoPlan) (.ref C_NoPlan) = some true)
    (e16_NoPlan : K.lookup fI_NoPlan = some ⟨oc_NoPlan, od_NoPlan, .func (PySem.W.fnOf "__init__" "NoPlan.__init__" (SE.iA "ring" ⟨21, 17, 21, 21⟩ ⟨21, 23, 21, 27⟩) (SE.iB "ring" ⟨22, 8, 22, 12⟩ ⟨22, 8, 22, 17⟩ ⟨22, 20, 22, 24⟩ ⟨22, 8, 22, 24⟩) (SE.iS "ring") .none .none dc_NoPlan pm_NoPlan an_NoPlan cd_NoPlan ct_NoPlan), sl_NoPlan⟩)
    (e17_NoPlan : PySem.W.codeIn K cd_NoPlan "NoPlan.__init__" = true)
    (z_k_MOST_POINTS : PySem.W.nsIn K mainGlobals "MOST_POINTS" = some (some (.int 30 tk_MOST_POINTS)))
    (z_x_NoPlan_InvalidPoint : PySem.W.subIn K (.ref C_NoPlan) (.ref C_InvalidPoint) = some false)
    : ∃ fd : FuncData, (∀ (s : Shared) (v : Value), BindsTo s fd ⟨[v], []⟩ [("script", v)]) ∧ ∀ base : Heap, K.In base → base.Ns mainGlobals mg → FnOk P w K mg base CX0 9 fa fd ["script"] (sp_law K adZ) := by
  have e := hfa.symm.trans (PySem.W.mg_of X G a_law)
  cases e
  have T : Txt K mg { C_StayError := 0, C_InvalidMany := 0, C_InvalidBounds := 0, C_InvalidPoint := C_InvalidPoint, C_NoPlan := C_NoPlan, C_Plan := C_Plan } := {
    b_abs := PySem.W.mg_none_of X G z_b_abs,
    b_all := PySem.W.mg_none_of X G z_b_all,
    b_bool := PySem.W.mg_none_of X G z_b_bool,
    b_int := PySem.W.mg_none_of X G z_b_int,
    b_isinstance := PySem.W.mg_none_of X G z_b_isinstance,
    b_len := PySem.W.mg_none_of X G z_b_len,
    b_list := PySem.W.mg_none_of X G z_b_list,
    b_max := PySem.W.mg_none_of X G z_b_max,
    b_min := PySem.W.mg_none_of X G z_b_min,
    b_range := PySem.W.mg_none_of X G z_b_range,
    b_str := PySem.W.mg_none_of X G z_b_str,
    b_sum := PySem.W.mg_none_of X G z_b_sum,
    b_tuple := PySem.W.mg_none_of X G z_b_tuple,
    cl_Plan := ⟨pg_Plan, hd_Plan, po_Plan, sa_Plan⟩,
    n_Plan_many := z_n_Plan_many,
    n_Plan_bounds := z_n_Plan_bounds,
    e_InvalidPoint := ⟨fI_InvalidPoint, { gC := PySem.W.mg_of X G e1_InvalidPoint, ini := e2_InvalidPoint, ov := e3_InvalidPoint, sa := e4_InvalidPoint, ga := e5_InvalidPoint, gg := e6_InvalidPoint, noN := e7_InvalidPoint, iC := e8_InvalidPoint, tC := e9_InvalidPoint, kC := e10_InvalidPoint, exC := e11_InvalidPoint, tyC := e12_InvalidPoint, hdC := e13_InvalidPoint, te := exm_of e11_InvalidPoint e14_InvalidPoint e12_InvalidPoint e15_InvalidPoint, fn := ⟨_, _, _, _, _, _, _, _, _, _, _, _, _, _, e16_InvalidPoint, e17_InvalidPoint⟩ }⟩,
    e_NoPlan := ⟨fI_NoPlan, { gC := PySem.W.mg_of X G e1_NoPlan, ini := e2_NoPlan, ov := e3_NoPlan, sa := e4_NoPlan, ga := e5_NoPlan, gg := e6_NoPlan, noN := e7_NoPlan, iC := e8_NoPlan, tC := e9_NoPlan, kC := e10_NoPlan, exC := e11_NoPlan, tyC := e12_NoPlan, hdC := e13_NoPlan, te := exm_of e11_NoPlan e14_NoPlan e12_NoPlan e15_NoPlan, fn := ⟨_, _, _, _, _, _, _, _, _, _, _, _, _, _, e16_NoPlan, e17_NoPlan⟩ }⟩,
    k_MOST_POINTS := ⟨_, PySem.W.mg_of X G z_k_MOST_POINTS, ⟨_, rfl⟩⟩,
    x_NoPlan_InvalidPoint := exm_of e11_InvalidPoint e14_InvalidPoint e12_InvalidPoint z_x_NoPlan_InvalidPoint }
  have F_is_whole := fun_mk (st := s_is_whole) l_is_whole c_is_whole k_is_whole
  have b_is_whole := F_is_whole.binds (ps := ["value"]) fun _ _ _ _ _ _ us hl => match us, hl with | [_], _ => rfl
  have F_is_from_to := fun_mk (st := s_is_from_to) l_is_from_to c_is_from_to k_is_from_to
  have b_is_from_to := F_is_from_to.binds (ps := ["value", "low", "high"]) fun _ _ _ _ _ _ us hl => match us, hl with | [_, _, _], _ => rfl
  have F_is_index := fun_mk (st := s_is_index) l_is_index c_is_index k_is_index
  have b_is_index := F_is_index.binds (ps := ["value", "many"]) fun _ _ _ _ _ _ us hl => match us, hl with | [_, _], _ => rfl
  have F_is_listed := fun_mk (st := s_is_listed) l_is_listed c_is_listed k_is_listed
  have b_is_listed := F_is_listed.binds (ps := ["value"]) fun _ _ _ _ _ _ us hl => match us, hl with | [_], _ => rfl
  have F_is_tuple_of := fun_mk (st := s_is_tuple_of) l_is_tuple_of c_is_tuple_of k_is_tuple_of
  have b_is_tuple_of := F_is_tuple_of.binds (ps := ["value", "many"]) fun _ _ _ _ _ _ us hl => match us, hl with | [_, _], _ => rfl
  have F_is_bound := fun_mk (st := s_is_bound) l_is_bound c_is_bound k_is_bound
  have b_is_bound := F_is_bound.binds (ps := ["many", "value"]) fun _ _ _ _ _ _ us hl => match us, hl with | [_, _], _ => rfl
  have F_are_bounds := fun_mk (st := s_are_bounds) l_are_bounds c_are_bounds k_are_bounds
  have b_are_bounds := F_are_bounds.binds (ps := ["many", "value"]) fun _ _ _ _ _ _ us hl => match us, hl with | [_, _], _ => rfl
  have F_lengths_from := fun_mk (st := s_lengths_from) l_lengths_from c_lengths_from k_lengths_from
  have b_lengths_from := F_lengths_from.binds (ps := ["many", "start", "ways"]) fun _ _ _ _ _ _ us hl => match us, hl with | [_, _, _], _ => rfl
  have F_last_lowered := fun_mk (st := s_last_lowered) l_last_lowered c_last_lowered k_last_lowered
  have b_last_lowered := F_last_lowered.binds (ps := ["many", "ways"]) fun _ _ _ _ _ _ us hl => match us, hl with | [_, _], _ => rfl
  have F_ring_in := fun_mk (st := s_ring_in) l_ring_in c_ring_in k_ring_in
  have b_ring_in := F_ring_in.binds (ps := ["many", "ways"]) fun _ _ _ _ _ _ us hl => match us, hl with | [_, _], _ => rfl
  have F_Plan_init := fun_mk (st := s_Plan_init) l_Plan_init c_Plan_init k_Plan_init
  have b_Plan_init := F_Plan_init.binds (ps := ["self", "many", "bounds"]) fun _ _ _ _ _ _ us hl => match us, hl with | [_, _, _], _ => rfl
  have F_Plan_ring := fun_mk (st := s_Plan_ring) l_Plan_ring c_Plan_ring k_Plan_ring
  have b_Plan_ring := F_Plan_ring.binds (ps := ["self"]) fun _ _ _ _ _ _ us hl => match us, hl with | [_], _ => rfl
  have F_Plan_tight := fun_mk (st := s_Plan_tight) l_Plan_tight c_Plan_tight k_Plan_tight
  have b_Plan_tight := F_Plan_tight.binds (ps := ["self", "one", "other"]) fun _ _ _ _ _ _ us hl => match us, hl with | [_, _, _], _ => rfl
  have F_law_cell := fun_mk (st := s_law_cell) l_law_cell c_law_cell k_law_cell
  have b_law_cell := F_law_cell.binds (ps := ["script", "k"]) fun _ _ _ _ _ _ us hl => match us, hl with | [_, _], _ => rfl
  have F_law_box := fun_mk (st := s_law_box) l_law_box c_law_box k_law_box
  have b_law_box := F_law_box.binds (ps := ["great"]) fun _ _ _ _ _ _ us hl => match us, hl with | [_], _ => rfl
  have F_law_take := fun_mk (st := s_law_take) l_law_take c_law_take k_law_take
  have b_law_take := F_law_take.binds (ps := ["box", "many"]) fun _ _ _ _ _ _ us hl => match us, hl with | [_, _], _ => rfl
  have F_law_mixed := fun_mk (st := s_law_mixed) l_law_mixed c_law_mixed k_law_mixed
  have b_law_mixed := F_law_mixed.binds (ps := ["box", "items"]) fun _ _ _ _ _ _ us hl => match us, hl with | [_, _], _ => rfl
  have F_law_same := fun_mk (st := s_law_same) l_law_same c_law_same k_law_same
  have b_law_same := F_law_same.binds (ps := ["told", "due"]) fun _ _ _ _ _ _ us hl => match us, hl with | [_, _], _ => rfl
  have F_law_whole := fun_mk (st := s_law_whole) l_law_whole c_law_whole k_law_whole
  have b_law_whole := F_law_whole.binds (ps := ["value"]) fun _ _ _ _ _ _ us hl => match us, hl with | [_], _ => rfl
  have F_law_blamed := fun_mk (st := s_law_blamed) l_law_blamed c_law_blamed k_law_blamed
  have b_law_blamed := F_law_blamed.binds (ps := ["given", "value"]) fun _ _ _ _ _ _ us hl => match us, hl with | [_, _], _ => rfl
  have F_law_copy := fun_mk (st := s_law_copy) l_law_copy c_law_copy k_law_copy
  have b_law_copy := F_law_copy.binds (ps := ["value"]) fun _ _ _ _ _ _ us hl => match us, hl with | [_], _ => rfl
  have F_law_far := fun_mk (st := s_law_far) l_law_far c_law_far k_law_far
  have b_law_far := F_law_far.binds (ps := ["many", "bounds"]) fun _ _ _ _ _ _ us hl => match us, hl with | [_, _], _ => rfl
  have F_law_bounds := fun_mk (st := s_law_bounds) l_law_bounds c_law_bounds k_law_bounds
  have b_law_bounds := F_law_bounds.binds (ps := ["box", "many", "rings"]) fun _ _ _ _ _ _ us hl => match us, hl with | [_, _, _], _ => rfl
  have F_law_is_ring := fun_mk (st := s_law_is_ring) l_law_is_ring c_law_is_ring k_law_is_ring
  have b_law_is_ring := F_law_is_ring.binds (ps := ["bounds", "value"]) fun _ _ _ _ _ _ us hl => match us, hl with | [_, _], _ => rfl
  have F_law_told := fun_mk (st := s_law_told) l_law_told c_law_told k_law_told
  have b_law_told := F_law_told.binds (ps := ["plan", "one", "other", "way"]) fun _ _ _ _ _ _ us hl => match us, hl with | [_, _, _, _], _ => rfl
  have F_law_reached := fun_mk (st := s_law_reached) l_law_reached c_law_reached k_law_reached
  have b_law_reached := F_law_reached.binds (ps := ["many", "bounds", "one", "other", "distance"]) fun _ _ _ _ _ _ us hl => match us, hl with | [_, _, _, _, _], _ => rfl
  have F_law_blames := fun_mk (st := s_law_blames) l_law_blames c_law_blames k_law_blames
  have b_law_blames := F_law_blames.binds (ps := ["told", "value"]) fun _ _ _ _ _ _ us hl => match us, hl with | [_, _], _ => rfl
  have F_law_bad_right := fun_mk (st := s_law_bad_right) l_law_bad_right c_law_bad_right k_law_bad_right
  have b_law_bad_right := F_law_bad_right.binds (ps := ["box", "plan", "many", "way"]) fun _ _ _ _ _ _ us hl => match us, hl with | [_, _, _, _], _ => rfl
  have F_law_right := fun_mk (st := s_law_right) l_law_right c_law_right k_law_right
  have b_law_right := F_law_right.binds (ps := ["box", "many", "rings", "way"]) fun _ _ _ _ _ _ us hl => match us, hl with | [_, _, _, _], _ => rfl
  have F_law := fun_mk (st := s_law) l_law c_law k_law
  refine ⟨PySem.W.fnOf "law" "law" (defArgs s_law) (defBody s_law) (defScope s_law) .none kV_law dc_law pm_law an_law cd_law ct_law, fun s v => .of_eq rfl, fun base _ _ => ?_⟩
  have O_is_whole : FnOk P w K mg base CX0 1 _ _ ["value"] (sp_is_whole K { C_StayError := 0, C_InvalidMany := 0, C_InvalidBounds := 0, C_InvalidPoint := C_InvalidPoint, C_NoPlan := C_NoPlan, C_Plan := C_Plan }) := ok_is_whole F_is_whole T 
  have O_is_listed : FnOk P w K mg base CX0 1 _ _ ["value"] (sp_is_listed K { C_StayError := 0, C_InvalidMany := 0, C_InvalidBounds := 0, C_InvalidPoint := C_InvalidPoint, C_NoPlan := C_NoPlan, C_Plan := C_Plan }) := ok_is_listed F_is_listed T 
  have O_is_tuple_of : FnOk P w K mg base CX0 1 _ _ ["value", "many"] (sp_is_tuple_of K { C_StayError := 0, C_InvalidMany := 0, C_InvalidBounds := 0, C_InvalidPoint := C_InvalidPoint, C_NoPlan := C_NoPlan, C_Plan := C_Plan }) := ok_is_tuple_of F_is_tuple_of T 
  have O_lengths_from : FnOk P w K mg base CX0 1 _ _ ["many", "start", "ways"] (sp_lengths_from K { C_StayError := 0, C_InvalidMany := 0, C_InvalidBounds := 0, C_InvalidPoint := C_InvalidPoint, C_NoPlan := C_NoPlan, C_Plan := C_Plan }) := ok_lengths_from F_lengths_from T 
  have O_last_lowered : FnOk P w K mg base CX0 1 _ _ ["many", "ways"] (sp_last_lowered K { C_StayError := 0, C_InvalidMany := 0, C_InvalidBounds := 0, C_InvalidPoint := C_InvalidPoint, C_NoPlan := C_NoPlan, C_Plan := C_Plan }) := ok_last_lowered F_last_lowered T 
  have O_law_cell : FnOk P w K mg base CX0 1 _ _ ["script", "k"] (sp_law_cell K { C_StayError := 0, C_InvalidMany := 0, C_InvalidBounds := 0, C_InvalidPoint := C_InvalidPoint, C_NoPlan := C_NoPlan, C_Plan := C_Plan }) := ok_law_cell F_law_cell T 
  have O_law_box : FnOk P w K mg base CX0 1 _ _ ["great"] (sp_law_box K { C_StayError := 0, C_InvalidMany := 0, C_InvalidBounds := 0, C_InvalidPoint := C_InvalidPoint, C_NoPlan := C_NoPlan, C_Plan := C_Plan }) := ok_law_box F_law_box T 
  have O_law_take : FnOk P w K mg base CX0 1 _ _ ["box", "many"] (sp_law_take K { C_StayError := 0, C_InvalidMany := 0, C_InvalidBounds := 0, C_InvalidPoint := C_InvalidPoint, C_NoPlan := C_NoPlan, C_Plan := C_Plan }) := ok_law_take F_law_take T 
  have O_law_whole : FnOk P w K mg base CX0 1 _ _ ["value"] (sp_law_whole K { C_StayError := 0, C_InvalidMany := 0, C_InvalidBounds := 0, C_InvalidPoint := C_InvalidPoint, C_NoPlan := C_NoPlan, C_Plan := C_Plan }) := ok_law_whole F_law_whole T 
  have O_law_copy : FnOk P w K mg base CX0 1 _ _ ["value"] (sp_law_copy K { C_StayError := 0, C_InvalidMany := 0, C_InvalidBounds := 0, C_InvalidPoint := C_InvalidPoint, C_NoPlan := C_NoPlan, C_Plan := C_Plan }) := ok_law_copy F_law_copy T 
  have O_law_far : FnOk P w K mg base CX0 1 _ _ ["many", "bounds"] (sp_law_far K { C_StayError := 0, C_InvalidMany := 0, C_InvalidBounds := 0, C_InvalidPoint := C_InvalidPoint, C_NoPlan := C_NoPlan, C_Plan := C_Plan }) := ok_law_far F_law_far T 
  have O_is_from_to : FnOk P w K mg base CX0 2 _ _ ["value", "low", "high"] (sp_is_from_to K { C_StayError := 0, C_InvalidMany := 0, C_InvalidBounds := 0, C_InvalidPoint := C_InvalidPoint, C_NoPlan := C_NoPlan, C_Plan := C_Plan }) := ok_is_from_to F_is_from_to T (⟨_, _, PySem.W.mg_of X G a_is_whole, k_is_whole, b_is_whole, O_is_whole⟩)
  have O_is_index : FnOk P w K mg base CX0 2 _ _ ["value", "many"] (sp_is_index K { C_StayError := 0, C_InvalidMany := 0, C_InvalidBounds := 0, C_InvalidPoint := C_InvalidPoint, C_NoPlan := C_NoPlan, C_Plan := C_Plan }) := ok_is_index F_is_index T (⟨_, _, PySem.W.mg_of X G a_is_whole, k_is_whole, b_is_whole, O_is_whole⟩)
  have O_ring_in : FnOk P w K mg base CX0 2 _ _ ["many", "ways"] (sp_ring_in K { C_StayError := 0, C_InvalidMany := 0, C_InvalidBounds := 0, C_InvalidPoint := C_InvalidPoint, C_NoPlan := C_NoPlan, C_Plan := C_Plan }) := ok_ring_in F_ring_in T (⟨_, _, PySem.W.mg_of X G a_last_lowered, k_last_lowered, b_last_lowered, O_last_lowered⟩)
  have O_law_mixed : FnOk P w K mg base CX0 2 _ _ ["box", "items"] (sp_law_mixed K { C_StayError := 0, C_InvalidMany := 0, C_InvalidBounds := 0, C_InvalidPoint := C_InvalidPoint, C_NoPlan := C_NoPlan, C_Plan := C_Plan }) := ok_law_mixed F_law_mixed T (⟨_, _, PySem.W.mg_of X G a_law_take, k_law_take, b_law_take, O_law_take⟩)
  have O_law_is_ring : FnOk P w K mg base CX0 2 _ _ ["bounds", "value"] (sp_law_is_ring K { C_StayError := 0, C_InvalidMany := 0, C_InvalidBounds := 0, C_InvalidPoint := C_InvalidPoint, C_NoPlan := C_NoPlan, C_Plan := C_Plan }) := ok_law_is_ring F_law_is_ring T (⟨_, _, PySem.W.mg_of X G a_law_whole, k_law_whole, b_law_whole, O_law_whole⟩)
  have O_is_bound : FnOk P w K mg base CX0 3 _ _ ["many", "value"] (sp_is_bound K { C_StayError := 0, C_InvalidMany := 0, C_InvalidBounds := 0, C_InvalidPoint := C_InvalidPoint, C_NoPlan := C_NoPlan, C_Plan := C_Plan }) := ok_is_bound F_is_bound T (⟨_, _, PySem.W.mg_of X G a_is_index, k_is_index, b_is_index, O_is_index⟩) (⟨_, _, PySem.W.mg_of X G a_is_tuple_of, k_is_tuple_of, b_is_tuple_of, O_is_tuple_of⟩) (⟨_, _, PySem.W.mg_of X G a_is_whole, k_is_whole, b_is_whole, O_is_whole⟩)
  have O_Plan_ring : FnOk P w K mg base CX0 3 _ _ ["self"] (sp_Plan_ring K { C_StayError := 0, C_InvalidMany := 0, C_InvalidBounds := 0, C_InvalidPoint := C_InvalidPoint, C_NoPlan := C_NoPlan, C_Plan := C_Plan }) := ok_Plan_ring F_Plan_ring T (⟨_, _, PySem.W.mg_of X G a_ring_in, k_ring_in, b_ring_in, O_ring_in⟩)
  have O_law_bounds : FnOk P w K mg base CX0 3 _ _ ["box", "many", "rings"] (sp_law_bounds K { C_StayError := 0, C_InvalidMany := 0, C_InvalidBounds := 0, C_InvalidPoint := C_InvalidPoint, C_NoPlan := C_NoPlan, C_Plan := C_Plan }) := ok_law_bounds F_law_bounds T (⟨_, _, PySem.W.mg_of X G a_law_mixed, k_law_mixed, b_law_mixed, O_law_mixed⟩) (⟨_, _, PySem.W.mg_of X G a_law_take, k_law_take, b_law_take, O_law_take⟩)
  have O_are_bounds : FnOk P w K mg base CX0 4 _ _ ["many", "value"] (sp_are_bounds K { C_StayError := 0, C_InvalidMany := 0, C_InvalidBounds := 0, C_InvalidPoint := C_InvalidPoint, C_NoPlan := C_NoPlan, C_Plan := C_Plan }) := ok_are_bounds F_are_bounds T (⟨_, _, PySem.W.mg_of X G a_is_bound, k_is_bound, b_is_bound, O_is_bound⟩) (⟨_, _, PySem.W.mg_of X G a_is_listed, k_is_listed, b_is_listed, O_is_listed⟩)
  have O_Plan_tight : FnOk P w K mg base (L2.CX P w) 4 _ _ ["self", "one", "other"] (sp_Plan_tight K { C_StayError := 0, C_InvalidMany := 0, C_InvalidBounds := 0, C_InvalidPoint := C_InvalidPoint, C_NoPlan := C_NoPlan, C_Plan := C_Plan }) := ok_Plan_tight F_Plan_tight T (⟨_, _, ⟨pg_Plan, hd_Plan, po_Plan, sa_Plan⟩, ⟨a_Plan_ring, i_Plan_ring, k_Plan_ring⟩, b_Plan_ring, O_Plan_ring⟩) (⟨_, _, PySem.W.mg_of X G a_is_index, k_is_index, b_is_index, O_is_index⟩) (⟨_, _, PySem.W.mg_of X G a_lengths_from, k_lengths_from, b_lengths_from, O_lengths_from⟩)
  have R_law_same : ∀ n, FnOk P w K mg base CX0 (0 + n) _ _ ["told", "due"] (sameAt K n) := fun n => by
    induction n with
    | zero => exact FnOk.imp fn_nothing fun _ _ _ _ h => by obtain ⟨_, _, _, _, _, _, fl, _⟩ := h; exact fl
    | succ n ih => exact ok_law_same (by omega) F_law_same T  ⟨_, _, PySem.W.mg_of X G a_law_same, k_law_same, b_law_same, ih⟩ (fun _ _ _ _ h => by obtain ⟨_, _, _, rfl, _⟩ := h; rfl) (fun vs H Q E h => pure_law_same T n vs H Q E h)
  have O_law_same : FnOk P w K mg base CX0 4 _ _ ["told", "due"] (sp_law_same K { C_StayError := 0, C_InvalidMany := 0, C_InvalidBounds := 0, C_InvalidPoint := C_InvalidPoint, C_NoPlan := C_NoPlan, C_Plan := C_Plan }) := R_law_same 4
  have O_Plan_init : FnOk P w K mg base CX0 5 _ _ ["self", "many", "bounds"] (sp_Plan_init K { C_StayError := 0, C_InvalidMany := 0, C_InvalidBounds := 0, C_InvalidPoint := C_InvalidPoint, C_NoPlan := C_NoPlan, C_Plan := C_Plan }) := ok_Plan_init F_Plan_init T (⟨_, _, PySem.W.mg_of X G a_are_bounds, k_are_bounds, b_are_bounds, O_are_bounds⟩) (⟨_, _, PySem.W.mg_of X G a_is_from_to, k_is_from_to, b_is_from_to, O_is_from_to⟩)
  have O_law_blamed : FnOk P w K mg base CX0 5 _ _ ["given", "value"] (sp_law_blamed K { C_StayError := 0, C_InvalidMany := 0, C_InvalidBounds := 0, C_InvalidPoint := C_InvalidPoint, C_NoPlan := C_NoPlan, C_Plan := C_Plan }) := ok_law_blamed F_law_blamed T (⟨_, _, PySem.W.mg_of X G a_law_same, k_law_same, b_law_same, O_law_same⟩)
  have O_law_told : FnOk P w K mg base CX0 5 _ _ ["plan", "one", "other", "way"] (sp_law_told K { C_StayError := 0, C_InvalidMany := 0, C_InvalidBounds := 0, C_InvalidPoint := C_InvalidPoint, C_NoPlan := C_NoPlan, C_Plan := C_Plan }) := ok_law_told F_law_told T (⟨_, _, ⟨pg_Plan, hd_Plan, po_Plan, sa_Plan⟩, ⟨a_Plan_tight, i_Plan_tight, k_Plan_tight⟩, b_Plan_tight, O_Plan_tight⟩) (⟨_, _, _, ⟨pg_Plan, hd_Plan, po_Plan, sa_Plan⟩, ⟨a_Plan_tight, i_Plan_tight, k_Plan_tight⟩, kb_kw_Plan_tight_other_one F_Plan_tight, O_Plan_tight⟩)
  have O_law_blames : FnOk P w K mg base CX0 6 _ _ ["told", "value"] (sp_law_blames K { C_StayError := 0, C_InvalidMany := 0, C_InvalidBounds := 0, C_InvalidPoint := C_InvalidPoint, C_NoPlan := C_NoPlan, C_Plan := C_Plan }) := ok_law_blames F_law_blames T (⟨_, _, PySem.W.mg_of X G a_law_blamed, k_law_blamed, b_law_blamed, O_law_blamed⟩)
  have O_law_reached : FnOk P w K mg base CX0 7 _ _ ["many", "bounds", "one", "other", "distance"] (sp_law_reached K { C_StayError := 0, C_InvalidMany := 0, C_InvalidBounds := 0, C_InvalidPoint := C_InvalidPoint, C_NoPlan := C_NoPlan, C_Plan := C_Plan }) := ok_law_reached F_law_reached T (⟨_, _, PySem.W.mg_of X G g_Plan, ⟨mk_Plan, a_Plan_init, i_Plan_init, kc_Plan⟩, b_Plan_init, O_Plan_init⟩) (⟨_, _, ⟨pg_Plan, hd_Plan, po_Plan, sa_Plan⟩, ⟨a_Plan_ring, i_Plan_ring, k_Plan_ring⟩, b_Plan_ring, O_Plan_ring⟩)
  have O_law_bad_right : FnOk P w K mg base CX0 7 _ _ ["box", "plan", "many", "way"] (sp_law_bad_right K { C_StayError := 0, C_InvalidMany := 0, C_InvalidBounds := 0, C_InvalidPoint := C_InvalidPoint, C_NoPlan := C_NoPlan, C_Plan := C_Plan }) := ok_law_bad_right F_law_bad_right T (⟨_, _, PySem.W.mg_of X G a_law_blames, k_law_blames, b_law_blames, O_law_blames⟩) (⟨_, _, PySem.W.mg_of X G a_law_copy, k_law_copy, b_law_copy, O_law_copy⟩) (⟨_, _, PySem.W.mg_of X G a_law_take, k_law_take, b_law_take, O_law_take⟩) (⟨_, _, PySem.W.mg_of X G a_law_told, k_law_told, b_law_told, O_law_told⟩)
  have O_law_right : FnOk P w K mg base CX0 8 _ _ ["box", "many", "rings", "way"] (sp_law_right K { C_StayError := 0, C_InvalidMany := 0, C_InvalidBounds := 0, C_InvalidPoint := C_InvalidPoint, C_NoPlan := C_NoPlan, C_Plan := C_Plan }) := ok_law_right F_law_right T (⟨_, _, PySem.W.mg_of X G g_Plan, ⟨mk_Plan, a_Plan_init, i_Plan_init, kc_Plan⟩, b_Plan_init, O_Plan_init⟩) (⟨_, _, PySem.W.mg_of X G a_law_bad_right, k_law_bad_right, b_law_bad_right, O_law_bad_right⟩) (⟨_, _, PySem.W.mg_of X G a_law_bounds, k_law_bounds, b_law_bounds, O_law_bounds⟩) (⟨_, _, PySem.W.mg_of X G a_law_far, k_law_far, b_law_far, O_law_far⟩) (⟨_, _, PySem.W.mg_of X G a_law_is_ring, k_law_is_ring, b_law_is_ring, O_law_is_ring⟩) (⟨_, _, PySem.W.mg_of X G a_law_reached, k_law_reached, b_law_reached, O_law_reached⟩) (⟨_, _, PySem.W.mg_of X G a_law_same, k_law_same, b_law_same, O_law_same⟩) (⟨_, _, PySem.W.mg_of X G a_law_take, k_law_take, b_law_take, O_law_take⟩) (⟨_, _, PySem.W.mg_of X G a_law_told, k_law_told, b_law_told, O_law_told⟩)
  have O_law : FnOk P w K mg base CX0 9 _ _ ["script"] (sp_law K { C_StayError := 0, C_InvalidMany := 0, C_InvalidBounds := 0, C_InvalidPoint := C_InvalidPoint, C_NoPlan := C_NoPlan, C_Plan := C_Plan }) := ok_law F_law T (⟨_, _, PySem.W.mg_of X G a_law_box, k_law_box, b_law_box, O_law_box⟩) (⟨_, _, PySem.W.mg_of X G a_law_cell, k_law_cell, b_law_cell, O_law_cell⟩) (⟨_, _, PySem.W.mg_of X G a_law_right, k_law_right, b_law_right, O_law_right⟩) (⟨_, _, PySem.W.mg_of X G a_law_take, k_law_take, b_law_take, O_law_take⟩)
  exact O_law
theorem walk {l : PySem.W.OpenLaw} {q : Program} {loose : List Str} {XP : (Str → Option Value) → Heap → Prop} {YP : World → Heap → Prop} {d : DefRec} {K : Params → PySem.W.Frag} (hn : l.most = some 63) (hdf : d.params.defaults = [])
    (hY : ∀ (w : World) (h : Heap), YP w h → (K w.params).In h)
    (F : ∀ (w : World) (mg : Str → Option Value) (fa : Addr) (h : Heap), (K w.params).In h → h.Ns mainGlobals mg → mg d.name = some (.ref fa) →
      ∃ fd : FuncData, (∀ (s : Shared) (u : Value), BindsTo s fd ⟨[u], []⟩ [("script", u)]) ∧ ∀ base : Heap, (K w.params).In base → base.Ns mainGlobals mg → FnOk l.prog w (K w.params) mg base CX0 9 fa fd ["script"] (sp_law (K w.params) adZ)) :
    PySem.W.WalkO q loose XP YP l.row.toRowW d [] (fun f vs => PySem.call f vs) :=
  L2.walk_of (n := 63) (k := 9) (x := "script") (CX := fun _ => CX0) (sp := fun w => sp_law (K w.params) adZ) hn (by decide) hdf ⟨rfl, by decide, by decide⟩ hY F (fun _ _ a ns hl _ hS => ⟨a, ns, rfl, hS, hl, fun _ => rfl⟩) fun _ _ _ _ _ z => z
end A49

open PySem PySem.W PyProof.Rows in
set_option maxRecDepth 100000 in
set_option maxHeartbeats 0 in
theorem PySem.Challenge.cw_stayskept_k49_tight_distances_holds : PySem.Challenge.rw_stayskept_k49_tight_distances.Holds := by
  w_on; o_law; k_head; (case hw => w_witness2)
  k_fill
  refine A49.walk (l := PySem.Challenge.rw_stayskept_k49_tight_distances) rfl rfl (fun w h Y => PySem.W.kIn_of Y) ?F
  case F =>
    intro w mg fa h KX G hmg
    refine' A49.all_mk KX G hmg ?g_Plan ?pg_Plan ?hd_Plan ?po_Plan ?sa_Plan ?mk_Plan ?kc_Plan ?a_is_whole ?l_is_whole ?c_is_whole ?k_is_whole ?a_is_from_to ?l_is_from_to ?c_is_from_to ?k_is_from_to ?a_is_index ?l_is_index ?c_is_index ?k_is_index ?a_is_listed ?l_is_listed ?c_is_listed ?k_is_listed ?a_is_tuple_of ?l_is_tuple_of ?c_is_tuple_of ?k_is_tuple_of ?a_is_bound ?l_is_bound ?c_is_bound ?k_is_bound ?a_are_bounds ?l_are_bounds ?c_are_bounds ?k_are_bounds ?a_lengths_from ?l_lengths_from ?c_lengths_from ?k_lengths_from ?a_last_lowered ?l_last_lowered ?c_last_lowered ?k_last_lowered ?a_ring_in ?l_ring_in ?c_ring_in ?k_ring_in ?a_Plan_init ?i_Plan_init ?l_Plan_init ?c_Plan_init ?k_Plan_init ?a_Plan_ring ?i_Plan_ring ?l_Plan_ring ?c_Plan_ring ?k_Plan_ring ?a_Plan_tight ?i_Plan_tight ?l_Plan_tight ?c_Plan_tight ?k_Plan_tight ?a_law_cell ?l_law_cell ?c_law_cell ?k_law_cell ?a_law_box ?l_law_box ?c_law_box ?k_law_box ?a_law_take ?l_law_take ?c_law_take ?k_law_take ?a_law_mixed ?l_law_mixed ?c_law_mixed ?k_law_mixed ?a_law_same ?l_law_same ?c_law_same ?k_law_same ?a_law_whole ?l_law_whole ?c_law_whole ?k_law_whole ?a_law_blamed ?l_law_blamed ?c_law_blamed ?k_law_blamed ?a_law_copy ?l_law_copy ?c_law_copy ?k_law_copy ?a_law_far ?l_law_far ?c_law_far ?k_law_far ?a_law_bounds ?l_law_bounds ?c_law_bounds ?k_law_bounds ?a_law_is_ring ?l_law_is_ring ?c_law_is_ring ?k_law_is_ring ?a_law_told ?l_law_told ?c_law_told ?k_law_told ?a_law_reached ?l_law_reached ?c_law_reached ?k_law_reached ?a_law_blames ?l_law_blames ?c_law_blames ?k_law_blames ?a_law_bad_right ?l_law_bad_right ?c_law_bad_right ?k_law_bad_right ?a_law_right ?l_law_right ?c_law_right ?k_law_right ?a_law ?l_law ?c_law ?k_law ?z_b_abs ?z_b_all ?z_b_bool ?z_b_int ?z_b_isinstance ?z_b_len ?z_b_list ?z_b_max ?z_b_min ?z_b_range ?z_b_str ?z_b_sum ?z_b_tuple ?z_n_Plan_many ?z_n_Plan_bounds ?e1_InvalidPoint ?e2_InvalidPoint ?e3_InvalidPoint ?e4_InvalidPoint ?e5_InvalidPoint ?e6_InvalidPoint ?e7_InvalidPoint ?e8_InvalidPoint ?e9_InvalidPoint ?e10_InvalidPoint ?e11_InvalidPoint ?e12_InvalidPoint ?e13_InvalidPoint ?e14_InvalidPoint ?e15_InvalidPoint ?e16_InvalidPoint ?e17_InvalidPoint ?e1_NoPlan ?e2_NoPlan ?e3_NoPlan ?e4_NoPlan ?e5_NoPlan ?e6_NoPlan ?e7_NoPlan ?e8_NoPlan ?e9_NoPlan ?e10_NoPlan ?e11_NoPlan ?e12_NoPlan ?e13_NoPlan ?e14_NoPlan ?e15_NoPlan ?e16_NoPlan ?e17_NoPlan ?z_k_MOST_POINTS ?z_x_NoPlan_InvalidPoint
    (case g_Plan => k_is)
    (case pg_Plan => k_is)
    (case hd_Plan => k_is)
    (case po_Plan => k_is)
    (case sa_Plan => k_is)
    (case mk_Plan => k_is)
    (case kc_Plan => k_is)
    (case a_is_whole => k_is)
    (case l_is_whole => k_is)
    (case c_is_whole => k_is)
    (case k_is_whole => k_is)
    (case a_is_from_to => k_is)
    (case l_is_from_to => k_is)
    (case c_is_from_to => k_is)
    (case k_is_from_to => k_is)
    (case a_is_index => k_is)
    (case l_is_index => k_is)
    (case c_is_index => k_is)
    (case k_is_index => k_is)
    (case a_is_listed => k_is)
    (case l_is_listed => k_is)
    (case c_is_listed => k_is)
    (case k_is_listed => k_is)
    (case a_is_tuple_of => k_is)
    (case l_is_tuple_of => k_is)
    (case c_is_tuple_of => k_is)
    (case k_is_tuple_of => k_is)
    (case a_is_bound => k_is)
    (case l_is_bound => k_is)
    (case c_is_bound => k_is)
    (case k_is_bound => k_is)
    (case a_are_bounds => k_is)
    (case l_are_bounds => k_is)
    (case c_are_bounds => k_is)
    (case k_are_bounds => k_is)
    (case a_lengths_from => k_is)
    (case l_lengths_from => k_is)
    (case c_lengths_from => k_is)
    (case k_lengths_from => k_is)
    (case a_last_lowered => k_is)
    (case l_last_lowered => k_is)
    (case c_last_lowered => k_is)
    (case k_last_lowered => k_is)
    (case a_ring_in => k_is)
    (case l_ring_in => k_is)
    (case c_ring_in => k_is)
    (case k_ring_in => k_is)
    (case a_Plan_init => k_is)
    (case i_Plan_init => k_is)
    (case l_Plan_init => k_is)
    (case c_Plan_init => k_is)
    (case k_Plan_init => k_is)
    (case a_Plan_ring => k_is)
    (case i_Plan_ring => k_is)
    (case l_Plan_ring => k_is)
    (case c_Plan_ring => k_is)
    (case k_Plan_ring => k_is)
    (case a_Plan_tight => k_is)
    (case i_Plan_tight => k_is)
    (case l_Plan_tight => k_is)
    (case c_Plan_tight => k_is)
    (case k_Plan_tight => k_is)
    (case a_law_cell => k_is)
    (case l_law_cell => k_is)
    (case c_law_cell => k_is)
    (case k_law_cell => k_is)
    (case a_law_box => k_is)
    (case l_law_box => k_is)
    (case c_law_box => k_is)
    (case k_law_box => k_is)
    (case a_law_take => k_is)
    (case l_law_take => k_is)
    (case c_law_take => k_is)
    (case k_law_take => k_is)
    (case a_law_mixed => k_is)
    (case l_law_mixed => k_is)
    (case c_law_mixed => k_is)
    (case k_law_mixed => k_is)
    (case a_law_same => k_is)
    (case l_law_same => k_is)
    (case c_law_same => k_is)
    (case k_law_same => k_is)
    (case a_law_whole => k_is)
    (case l_law_whole => k_is)
    (case c_law_whole => k_is)
    (case k_law_whole => k_is)
    (case a_law_blamed => k_is)
    (case l_law_blamed => k_is)
    (case c_law_blamed => k_is)
    (case k_law_blamed => k_is)
    (case a_law_copy => k_is)
    (case l_law_copy => k_is)
    (case c_law_copy => k_is)
    (case k_law_copy => k_is)
    (case a_law_far => k_is)
    (case l_law_far => k_is)
    (case c_law_far => k_is)
    (case k_law_far => k_is)
    (case a_law_bounds => k_is)
    (case l_law_bounds => k_is)
    (case c_law_bounds => k_is)
    (case k_law_bounds => k_is)
    (case a_law_is_ring => k_is)
    (case l_law_is_ring => k_is)
    (case c_law_is_ring => k_is)
    (case k_law_is_ring => k_is)
    (case a_law_told => k_is)
    (case l_law_told => k_is)
    (case c_law_told => k_is)
    (case k_law_told => k_is)
    (case a_law_reached => k_is)
    (case l_law_reached => k_is)
    (case c_law_reached => k_is)
    (case k_law_reached => k_is)
    (case a_law_blames => k_is)
    (case l_law_blames => k_is)
    (case c_law_blames => k_is)
    (case k_law_blames => k_is)
    (case a_law_bad_right => k_is)
    (case l_law_bad_right => k_is)
    (case c_law_bad_right => k_is)
    (case k_law_bad_right => k_is)
    (case a_law_right => k_is)
    (case l_law_right => k_is)
    (case c_law_right => k_is)
    (case k_law_right => k_is)
    (case a_law => k_is)
    (case l_law => k_is)
    (case c_law => k_is)
    (case k_law => k_is)
    (case z_b_abs => k_is)
    (case z_b_all => k_is)
    (case z_b_bool => k_is)
    (case z_b_int => k_is)
    (case z_b_isinstance => k_is)
    (case z_b_len => k_is)
    (case z_b_list => k_is)
    (case z_b_max => k_is)
    (case z_b_min => k_is)
    (case z_b_range => k_is)
    (case z_b_str => k_is)
    (case z_b_sum => k_is)
    (case z_b_tuple => k_is)
    (case z_n_Plan_many => k_is)
    (case z_n_Plan_bounds => k_is)
    (case e1_InvalidPoint => k_is)
    (case e2_InvalidPoint => kx_is)
    (case e3_InvalidPoint => kx_is)
    (case e4_InvalidPoint => k_is)
    (case e5_InvalidPoint => k_is)
    (case e6_InvalidPoint => k_is)
    (case e7_InvalidPoint => k_is)
    (case e8_InvalidPoint => k_is)
    (case e9_InvalidPoint => k_is)
    (case e10_InvalidPoint => k_is)
    (case e11_InvalidPoint => k_is)
    (case e12_InvalidPoint => k_is)
    (case e13_InvalidPoint => k_is)
    (case e14_InvalidPoint => k_is)
    (case e15_InvalidPoint => k_is)
    (case e16_InvalidPoint => k_is)
    (case e17_InvalidPoint => k_is)
    (case e1_NoPlan => k_is)
    (case e2_NoPlan => kx_is)
    (case e3_NoPlan => kx_is)
    (case e4_NoPlan => k_is)
    (case e5_NoPlan => k_is)
    (case e6_NoPlan => k_is)
    (case e7_NoPlan => k_is)
    (case e8_NoPlan => k_is)
    (case e9_NoPlan => k_is)
    (case e10_NoPlan => k_is)
    (case e11_NoPlan => k_is)
    (case e12_NoPlan => k_is)
    (case e13_NoPlan => k_is)
    (case e14_NoPlan => k_is)
    (case e15_NoPlan => k_is)
    (case e16_NoPlan => k_is)
    (case e17_NoPlan => k_is)
    (case z_k_MOST_POINTS => k_is)
    (case z_x_NoPlan_InvalidPoint => k_is)
