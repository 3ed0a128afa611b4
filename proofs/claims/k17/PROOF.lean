import PyProof.Rows.All
import Wide.All
import OpenK.AllK
import Wide.FinOn
import HandS.ForMost
import HandS.ForExc
import HandS.ExcCtx
import HandS.HotCalls
import HandS.RaiseFrom
import HandS.Wide
import HandS.Flow
import HandS.Style
import HandS.Deep
import HandS.TupLe
import HandS.Walk
import HandS.TryOnly
import HandS.ExcOwn
import HandS.Iter
import KE.GoesMore
import PyProof.EnumMake
import PyProof.WalkInts
import HandS.SortRule
import PyProof.Rows.SortKeyStr
import HandS.IsInst
import HandS.SortInts
import HandS.Sort
import PyProof.Rows.SortShellAny
import HandS.StrMore
import HandS.Text
import HandS.ExcInit
import HandS.ExcField
import HandS.ExcIs
import KE.KIsAll
import HandS.Ends
import HandS.Words
import PySem.Challenge.RW_turnedstretches_k17_whole_breaks_of_text
set_option Elab.async false
set_option linter.all false
set_option maxRecDepth 100000
/-! V1: values with owners, how they lie in the abstract heap, states, steps. -/
namespace Vi
open PySem L2

/-- a value: plain data that nobody changes, an owned list, the script -/
inductive OV where
  | fz (d : PyData)
  | ol (xs : List OV)
  | sc (ns : List Int)
  | rg (i j : Int)
instance : Inhabited OV := ⟨.fz .none⟩
abbrev Env := List (Option OV)

/-- a text as the model has them -/
def StrG (x : Str) : Prop := x.length ≤ sizeLine ∧ x.cps.all (· < 0x110000) = true
mutual
inductive Rp (H : Hp) : V → PyData → Prop
  | non : Rp H .non .none
  | bl (b : Bool) : Rp H (.bl b) (.bool b)
  | int (i : Int) : Rp H (.int i) (.int i)
  | str (x : Str) : StrG x → Rp H (.str x) (.str x)
  | lst {a : Addr} {vs : List V} {ds : List PyData} : H a = some (.lst vs) → vs.length ≤ sizeLine → Rps H vs ds → Rp H (.ref a) (.list ds)
  | tup {a : Addr} {vs : List V} {ds : List PyData} : H a = some (.tup vs) → vs.length ≤ sizeLine → Rps H vs ds → Rp H (.ref a) (.tuple ds)
inductive Rps (H : Hp) : List V → List PyData → Prop
  | nil : Rps H [] []
  | cons {v : V} {d : PyData} {vs : List V} {ds : List PyData} : Rp H v d → Rps H vs ds → Rps H (v :: vs) (d :: ds)
end

abbrev Ex := Same

mutual
theorem Rp.mono {H H' : Hp} (e : Ex H H') : ∀ {v : V} {d : PyData}, Rp H v d → Rp H' v d
  | _, _, .non => .non
  | _, _, .bl b => .bl b
  | _, _, .int i => .int i
  | _, _, .str x h => .str x h
  | _, _, .lst h l r => .lst (e _ _ h) l (Rps.mono e r)
  | _, _, .tup h l r => .tup (e _ _ h) l (Rps.mono e r)
theorem Rps.mono {H H' : Hp} (e : Ex H H') : ∀ {vs : List V} {ds : List PyData}, Rps H vs ds → Rps H' vs ds
  | _, _, .nil => .nil
  | _, _, .cons h r => .cons (Rp.mono e h) (Rps.mono e r)
end
theorem Rps.length {H : Hp} : ∀ {vs : List V} {ds : List PyData}, Rps H vs ds → vs.length = ds.length
  | _, _, .nil => rfl
  | _, _, .cons _ r => by rw [List.length_cons, List.length_cons, r.length]
theorem Rps.get {H : Hp} : ∀ {vs : List V} {ds : List PyData} {i : Nat} {d : PyData}, Rps H vs ds → ds[i]? = some d → ∃ v, vs[i]? = some v ∧ Rp H v d
  | _, _, _, _, .nil, h => by simp at h
  | _, _, 0, _, .cons r _, h => by simp at h; subst h; exact ⟨_, rfl, r⟩
  | _, _, i + 1, d, .cons _ t, h => by
    obtain ⟨v, e, r⟩ := Rps.get (i := i) t (by simpa using h)
    exact ⟨v, by simpa using e, r⟩
theorem Rps.getV {H : Hp} : ∀ {vs : List V} {ds : List PyData} {i : Nat} {v : V}, Rps H vs ds → vs[i]? = some v → ∃ d, ds[i]? = some d ∧ Rp H v d
  | _, _, _, _, .nil, h => by simp at h
  | _, _, 0, _, .cons r _, h => by simp at h; subst h; exact ⟨_, rfl, r⟩
  | _, _, i + 1, d, .cons _ t, h => by
    obtain ⟨v, e, r⟩ := Rps.getV (i := i) t (by simpa using h)
    exact ⟨v, by simpa using e, r⟩
theorem Rps.append {H : Hp} : ∀ {vs ws : List V} {ds es : List PyData}, Rps H vs ds → Rps H ws es → Rps H (vs ++ ws) (ds ++ es)
  | _, _, _, _, .nil, s => s
  | _, _, _, _, .cons r t, s => .cons r (Rps.append t s)
theorem Rps.take {H : Hp} : ∀ {vs : List V} {ds : List PyData} (n : Nat), Rps H vs ds → Rps H (vs.take n) (ds.take n)
  | _, _, 0, _ => .nil
  | _, _, _ + 1, .nil => .nil
  | _, _, n + 1, .cons r t => .cons r (Rps.take n t)
theorem Rps.drop {H : Hp} : ∀ {vs : List V} {ds : List PyData} (n : Nat), Rps H vs ds → Rps H (vs.drop n) (ds.drop n)
  | _, _, 0, r => r
  | _, _, _ + 1, .nil => .nil
  | _, _, n + 1, .cons _ t => Rps.drop n t
theorem Rps.set {H : Hp} {v : V} {d : PyData} (r : Rp H v d) : ∀ {vs : List V} {ds : List PyData} (i : Nat), Rps H vs ds → Rps H (vs.set i v) (ds.set i d)
  | _, _, _, .nil => .nil
  | _, _, 0, .cons _ t => .cons r t
  | _, _, i + 1, .cons q t => .cons q (Rps.set r i t)
theorem Rps.eraseIdx {H : Hp} : ∀ {vs : List V} {ds : List PyData} (i : Nat), Rps H vs ds → Rps H (vs.eraseIdx i) (ds.eraseIdx i)
  | _, _, _, .nil => .nil
  | _, _, 0, .cons _ t => t
  | _, _, i + 1, .cons q t => .cons q (Rps.eraseIdx i t)
theorem Rps.reverse {H : Hp} : ∀ {vs : List V} {ds : List PyData}, Rps H vs ds → Rps H vs.reverse ds.reverse
  | _, _, .nil => .nil
  | _, _, .cons r t => by
    rw [List.reverse_cons, List.reverse_cons]
    exact (Rps.reverse t).append (.cons r .nil)
mutual
theorem Rp.dp {K : PySem.W.Frag} {H : Hp} : ∀ {v : V} {d : PyData}, Rp H v d → Dp K H v d
  | _, _, .non => .non
  | _, _, .bl b => .bl b
  | _, _, .int i => .int i
  | _, _, .str x _ => .str x
  | _, _, .lst h _ r => .lst (.inl (.inl h)) (Rps.dp r)
  | _, _, .tup h _ r => .tup (.inl (.inl h)) (Rps.dp r)
theorem Rps.dp {K : PySem.W.Frag} {H : Hp} : ∀ {vs : List V} {ds : List PyData}, Rps H vs ds → DpAll K H vs ds
  | _, _, .nil => .nil
  | _, _, .cons h r => .cons (Rp.dp h) (Rps.dp r)
end

mutual
theorem Rp.can {H : Hp} : ∀ {v : V} {d : PyData}, Rp H v d → d.canLay0 = true
  | _, _, .non => rfl
  | _, _, .bl b => rfl
  | _, _, .int i => rfl
  | _, _, .str x h => h.2
  | _, _, .lst h _ r => Rps.can r
  | _, _, .tup h _ r => Rps.can r
theorem Rps.can {H : Hp} : ∀ {vs : List V} {ds : List PyData}, Rps H vs ds → PyData.canLayAll0 ds = true
  | _, _, .nil => rfl
  | _, _, .cons h r => by
    unfold PyData.canLayAll0
    rw [Rp.can h, Rps.can r]
    rfl
end
/-! ### owned values -/
mutual
inductive OR (K : PySem.W.Frag) (Z H : Hp) : V → OV → List Addr → Prop
  | fz {v : V} {d : PyData} : Rp Z v d → OR K Z H v (.fz d) []
  | ol {a : Addr} {vs : List V} {xs : List OV} {F : List Addr} : Z a = none → H a = some (.lst vs) → vs.length ≤ sizeLine → ORs K Z H vs xs F → a ∉ F → OR K Z H (.ref a) (.ol xs) (a :: F)
  | sc {a : Addr} {ns : List Int} : SqL K Z a (ns.map V.int) → OR K Z H (.ref a) (.sc ns) []
  | rg {a : Addr} {i j : Int} : Z a = some (.rng i j) → OR K Z H (.ref a) (.rg i j) []
inductive ORs (K : PySem.W.Frag) (Z H : Hp) : List V → List OV → List Addr → Prop
  | nil : ORs K Z H [] [] []
  | cons {v : V} {x : OV} {vs : List V} {xs : List OV} {F G : List Addr} : OR K Z H v x F → ORs K Z H vs xs G → (∀ b, b ∈ F → b ∉ G) → ORs K Z H (v :: vs) (x :: xs) (F ++ G)
end
section
variable {K : PySem.W.Frag} {Z Z' H H' : Hp}
mutual
/-- what is owned stays where its own objects stay and none of them is frozen -/
theorem OR.mono (ez : Ex Z Z') : ∀ {v : V} {x : OV} {F : List Addr}, OR K Z H v x F → (∀ b, b ∈ F → H' b = H b) → (∀ b, b ∈ F → Z' b = none) → OR K Z' H' v x F
  | _, _, _, .fz h, _, _ => .fz (h.mono ez)
  | _, _, _, .ol hz ha hl r hn, e, z => .ol (z _ List.mem_cons_self) ((e _ List.mem_cons_self).trans ha) hl (ORs.mono ez r (fun b hb => e b (List.mem_cons_of_mem _ hb)) fun b hb => z b (List.mem_cons_of_mem _ hb)) hn
  | _, _, _, .sc h, _, _ => .sc (Same.seq ez h)
  | _, _, _, .rg h, _, _ => .rg (ez _ _ h)
theorem ORs.mono (ez : Ex Z Z') : ∀ {vs : List V} {xs : List OV} {F : List Addr}, ORs K Z H vs xs F → (∀ b, b ∈ F → H' b = H b) → (∀ b, b ∈ F → Z' b = none) → ORs K Z' H' vs xs F
  | _, _, _, .nil, _, _ => .nil
  | _, _, _, .cons h r d, e, z => .cons (OR.mono ez h (fun b hb => e b (List.mem_append_left _ hb)) fun b hb => z b (List.mem_append_left _ hb)) (ORs.mono ez r (fun b hb => e b (List.mem_append_right _ hb)) fun b hb => z b (List.mem_append_right _ hb)) d
end
mutual
theorem OR.own : ∀ {v : V} {x : OV} {F : List Addr}, OR K Z H v x F → ∀ b, b ∈ F → Z b = none ∧ ∃ vs, H b = some (.lst vs)
  | _, _, _, .fz _, b, hb => by cases hb
  | _, _, _, .ol hz ha _ r _, b, hb => by
    rcases List.mem_cons.mp hb with e | hb
    · subst e; exact ⟨hz, _, ha⟩
    · exact ORs.own r b hb
  | _, _, _, .sc _, b, hb => by cases hb
  | _, _, _, .rg _, b, hb => by cases hb
theorem ORs.own : ∀ {vs : List V} {xs : List OV} {F : List Addr}, ORs K Z H vs xs F → ∀ b, b ∈ F → Z b = none ∧ ∃ vs, H b = some (.lst vs)
  | _, _, _, .nil, b, hb => by cases hb
  | _, _, _, .cons h r _, b, hb => by
    rcases List.mem_append.mp hb with hb | hb
    · exact OR.own h b hb
    · exact ORs.own r b hb
end
theorem ORs.length : ∀ {vs : List V} {xs : List OV} {F : List Addr}, ORs K Z H vs xs F → vs.length = xs.length
  | _, _, _, .nil => rfl
  | _, _, _, .cons _ r _ => by rw [List.length_cons, List.length_cons, r.length]
theorem ORs.append : ∀ {vs ws : List V} {xs ys : List OV} {F G : List Addr}, ORs K Z H vs xs F → ORs K Z H ws ys G → (∀ b, b ∈ F → b ∉ G) → ORs K Z H (vs ++ ws) (xs ++ ys) (F ++ G)
  | _, _, _, _, _, _, .nil, s, _ => s
  | _, _, _, _, _, _, .cons (F := F) (G := G) h r d, s, e => by
    rw [List.append_assoc]
    refine .cons h (ORs.append r s fun b hb => e b (List.mem_append_right _ hb)) fun b hb hc => ?_
    rcases List.mem_append.mp hc with hc | hc
    · exact d b hb hc
    · exact e b (List.mem_append_left _ hb) hc
end

/-! ### as data -/
mutual
def dOf : OV → Option PyData
  | .fz d => some d
  | .ol xs => (dsOf xs).map .list
  | .sc _ => none
  | .rg _ _ => none
def dsOf : List OV → Option (List PyData)
  | [] => some []
  | x :: xs => match dOf x, dsOf xs with
    | some d, some ds => some (d :: ds)
    | _, _ => none
end
/-- Z and what H has at the places F -/
def frz (Z H : Hp) (F : List Addr) : Hp := fun b => if b ∈ F then H b else Z b
section
variable {K : PySem.W.Frag} {Z Z' H H' : Hp}
theorem frz_in {F : List Addr} {b : Addr} (h : b ∈ F) : frz Z H F b = H b := if_pos h
theorem frz_out {F : List Addr} {b : Addr} (h : b ∉ F) : frz Z H F b = Z b := if_neg h
theorem frz_ex {F : List Addr} (hz : ∀ b, b ∈ F → Z b = none) : Ex Z (frz Z H F) := fun b o e => by
  rw [frz_out fun hb => by rw [hz b hb] at e; cases e]
  exact e
theorem frz_sub {F : List Addr} (e : Ex Z H) : Ex (frz Z H F) H := fun b o h => by
  by_cases hb : b ∈ F
  · rw [frz_in hb] at h; exact h
  · rw [frz_out hb] at h; exact e b o h
mutual
theorem OR.rp (ez : Ex Z Z') : ∀ {v : V} {x : OV} {F : List Addr} {d : PyData}, OR K Z H v x F → (∀ b, b ∈ F → Z' b = H b) → dOf x = some d → Rp Z' v d
  | _, _, _, _, .fz h, _, e => by
    have e : some _ = some _ := e
    cases e
    exact h.mono ez
  | _, .ol xs, _, d, .ol hz ha hl r hn, g, e => by
    have e : (dsOf xs).map .list = some d := e
    cases q : dsOf xs with
    | none => rw [q] at e; cases e
    | some ds =>
      rw [q] at e
      cases e
      exact .lst ((g _ List.mem_cons_self).trans ha) hl (ORs.rp ez r (fun b hb => g b (List.mem_cons_of_mem _ hb)) q)
  | _, _, _, _, .sc _, _, e => by cases e
  | _, _, _, _, .rg _, _, e => by cases e
theorem ORs.rp (ez : Ex Z Z') : ∀ {vs : List V} {xs : List OV} {F : List Addr} {ds : List PyData}, ORs K Z H vs xs F → (∀ b, b ∈ F → Z' b = H b) → dsOf xs = some ds → Rps Z' vs ds
  | _, _, _, _, .nil, _, e => by
    have e : some [] = some _ := e
    cases e
    exact .nil
  | _, x :: xs, _, ds, .cons h r _, g, e => by
    unfold dsOf at e
    cases q1 : dOf x with
    | none => rw [q1] at e; cases e
    | some d =>
      cases q2 : dsOf xs with
      | none => rw [q1, q2] at e; cases e
      | some ds' =>
        rw [q1, q2] at e
        cases e
        exact .cons (OR.rp ez h (fun b hb => g b (List.mem_append_left _ hb)) q1) (ORs.rp ez r (fun b hb => g b (List.mem_append_right _ hb)) q2)
end
end

/-! ### states -/
abbrev Fp := Nat → List Addr
structure SI (K : PySem.W.Frag) (Z H : Hp) (σ : St) (env : Env) (F : Fp) : Prop where
  len : σ.length = env.length
  sub : Ex Z H
  rep : ∀ i x, env[i]? = some (some x) → ∃ v, σ[i]? = some (some v) ∧ OR K Z H v x (F i)
  non : ∀ i, (∀ x, env[i]? ≠ some (some x)) → F i = []
  dis : ∀ i j b, i ≠ j → b ∈ F i → b ∉ F j

/-- a step that leaves a value whose own objects are G -/
structure Stp (Z H : Hp) (F : Fp) (Z' H' : Hp) (F' : Fp) (G : List Addr) : Prop where
  zz : Ex Z Z'
  fr : ∀ b o, H b = some o → (∀ i, b ∉ F i) → H' b = some o
  gr : ∀ b, (b ∈ G ∨ ∃ i, b ∈ F' i) → (∃ i, b ∈ F i) ∨ H b = none
  gz : ∀ b, Z' b ≠ none → Z b ≠ none ∨ (∃ i, b ∈ F i) ∨ H b = none
  gd : ∀ i b, b ∈ G → b ∉ F' i

section
variable {K : PySem.W.Frag} {Z Z' Z1 Z2 H H' H1 H2 : Hp} {σ : St} {env env' : Env} {F F' F1 F2 : Fp} {G G' : List Addr}
theorem Stp.refl : Stp Z H F Z H F [] := ⟨Same.refl _, fun _ _ h _ => h, fun b h => h.elim (fun z => by cases z) fun z => .inl z, fun _ h => .inl h, fun _ _ h => by cases h⟩
theorem SI.own (I : SI K Z H σ env F) {i : Nat} {b : Addr} (h : b ∈ F i) : Z b = none ∧ ∃ vs, H b = some (.lst vs) := by
  cases q : env[i]? with
  | none =>
    have := I.non i fun x e => by rw [q] at e; cases e
    rw [this] at h; cases h
  | some o =>
    cases o with
    | none =>
      have := I.non i fun x e => by rw [q] at e; cases e
      rw [this] at h; cases h
    | some x =>
      obtain ⟨v, _, r⟩ := I.rep i x q
      exact r.own b h
/-- a value on the side stays -/
theorem Stp.keep {v : V} {x : OV} (s : Stp Z H F Z' H' F' G) (r : OR K Z H v x G') (d : ∀ i b, b ∈ G' → b ∉ F i) : OR K Z' H' v x G' := by
  refine r.mono s.zz (fun b hb => ?_) fun b hb => ?_
  · obtain ⟨_, vs, e⟩ := r.own b hb
    rw [e]
    exact s.fr b _ e fun i => d i b hb
  · cases q : Z' b with
    | none => rfl
    | some o =>
      obtain ⟨hz, vs, e⟩ := r.own b hb
      rcases s.gz b (by rw [q]; exact fun z => by cases z) with z | ⟨i, z⟩ | z
      · exact absurd hz z
      · exact absurd z (d i b hb)
      · rw [e] at z; cases z
theorem Stp.keeps {vs : List V} {xs : List OV} (s : Stp Z H F Z' H' F' G) (r : ORs K Z H vs xs G') (d : ∀ i b, b ∈ G' → b ∉ F i) : ORs K Z' H' vs xs G' := by
  refine r.mono s.zz (fun b hb => ?_) fun b hb => ?_
  · obtain ⟨_, vs, e⟩ := r.own b hb
    rw [e]
    exact s.fr b _ e fun i => d i b hb
  · cases q : Z' b with
    | none => rfl
    | some o =>
      obtain ⟨hz, vs, e⟩ := r.own b hb
      rcases s.gz b (by rw [q]; exact fun z => by cases z) with z | ⟨i, z⟩ | z
      · exact absurd hz z
      · exact absurd z (d i b hb)
      · rw [e] at z; cases z
/-- two steps; the first one's value is kept beside -/
theorem Stp.trans (s : Stp Z H F Z1 H1 F1 G) (t : Stp Z1 H1 F1 Z2 H2 F2 G') (own : ∀ b, b ∈ G → H1 b ≠ none) : Stp Z H F Z2 H2 F2 (G ++ G') := by
  have back : ∀ b, H1 b = none → H b = none ∨ ∃ i, b ∈ F i := fun b h => by
    by_cases hb : ∃ i, b ∈ F i
    · exact .inr hb
    · refine .inl ?_
      cases q : H b with
      | none => rfl
      | some o =>
        have := s.fr b o q fun i z => hb ⟨i, z⟩
        rw [h] at this; cases this
  have gr2 : ∀ b, (b ∈ G' ∨ ∃ i, b ∈ F2 i) → (∃ i, b ∈ F i) ∨ H b = none := fun b hb => by
    rcases t.gr b hb with z | z
    · exact s.gr b (.inr z)
    · exact (back b z).symm
  refine ⟨s.zz.trans t.zz, fun b o e hn => ?_, fun b hb => ?_, fun b hb => ?_, fun i b hb hc => ?_⟩
  · refine t.fr b o (s.fr b o e hn) fun i z => ?_
    rcases s.gr b (.inr ⟨i, z⟩) with ⟨j, w⟩ | w
    · exact hn j w
    · rw [e] at w; cases w
  · rcases hb with hb | hb
    · rcases List.mem_append.mp hb with hb | hb
      · exact s.gr b (.inl hb)
      · exact gr2 b (.inl hb)
    · exact gr2 b (.inr hb)
  · rcases t.gz b hb with z | ⟨i, z⟩ | z
    · exact s.gz b z
    · rcases s.gr b (.inr ⟨i, z⟩) with w | w
      · exact .inr (.inl w)
      · exact .inr (.inr w)
    · rcases back b z with w | w
      · exact .inr (.inr w)
      · exact .inr (.inl w)
  · rcases List.mem_append.mp hb with hb | hb
    · rcases t.gr b (.inr ⟨i, hc⟩) with ⟨j, z⟩ | z
      · exact s.gd j b hb z
      · exact own b hb z
    · exact t.gd i b hb hc
theorem Stp.trans0 (s : Stp Z H F Z1 H1 F1 []) (t : Stp Z1 H1 F1 Z2 H2 F2 G') : Stp Z H F Z2 H2 F2 G' := by
  have := s.trans t fun b h => by cases h
  simpa using this
theorem Stp.drop (s : Stp Z H F Z1 H1 F1 G) : Stp Z H F Z1 H1 F1 [] := ⟨s.zz, s.fr, fun b h => s.gr b (h.elim (fun z => by cases z) .inr), s.gz, fun _ _ h => by cases h⟩
theorem Stp.less (s : Stp Z H F Z1 H1 F1 G) (h : ∀ b, b ∈ G' → b ∈ G) : Stp Z H F Z1 H1 F1 G' := ⟨s.zz, s.fr, fun b q => s.gr b (q.elim (fun z => .inl (h b z)) .inr), s.gz, fun i b q => s.gd i b (h b q)⟩
/-- a value's own objects are frozen -/
theorem Stp.freeze (s : Stp Z H F Z' H' F' G) (I : SI K Z' H' σ env F') (own : ∀ b, b ∈ G → Z' b = none ∧ H' b ≠ none) : Stp Z H F (frz Z' H' G) H' F' [] ∧ SI K (frz Z' H' G) H' σ env F' := by
  refine ⟨⟨s.zz.trans (frz_ex fun b hb => (own b hb).1), s.fr, fun b h => s.gr b (h.elim (fun z => by cases z) .inr), fun b hb => ?_, fun _ _ h => by cases h⟩,
    ⟨I.len, frz_sub I.sub, fun i x e => ?_, I.non, I.dis⟩⟩
  · by_cases q : b ∈ G
    · exact .inr (s.gr b (.inl q))
    · rw [frz_out q] at hb
      exact s.gz b hb
  · obtain ⟨v, e1, r⟩ := I.rep i x e
    refine ⟨v, e1, r.mono (frz_ex fun b hb => (own b hb).1) (fun _ _ => rfl) fun b hb => ?_⟩
    rw [frz_out fun z => s.gd i b z hb]
    exact (r.own b hb).1
/-- a new frozen object -/
theorem SI.fresh {p : Addr} {o : HO} (I : SI K Z H σ env F) (hp : H p = none) : Stp Z H F (upd Z p o) (upd H p o) F [] ∧ SI K (upd Z p o) (upd H p o) σ env F := by
  have hz : Z p = none := by
    cases q : Z p with
    | none => rfl
    | some u => rw [I.sub p u q] at hp; cases hp
  have ez : Ex Z (upd Z p o) := fun b u e => by rw [upd_ne (ne_of_none e hz)]; exact e
  have eh : Ex H (upd H p o) := fun b u e => by rw [upd_ne (ne_of_none e hp)]; exact e
  refine ⟨⟨ez, fun b u e _ => eh b u e, fun b h => h.elim (fun z => by cases z) .inl, fun b hb => ?_, fun _ _ h => by cases h⟩, ⟨I.len, fun b u e => ?_, fun i x e => ?_, I.non, I.dis⟩⟩
  · by_cases q : b = p
    · subst q; exact .inr (.inr hp)
    · rw [upd_ne q] at hb; exact .inl hb
  · by_cases q : b = p
    · subst q; rw [upd_same] at e ⊢; exact e
    · rw [upd_ne q] at e ⊢; exact I.sub b u e
  · obtain ⟨v, e1, r⟩ := I.rep i x e
    refine ⟨v, e1, r.mono ez (fun b hb => ?_) fun b hb => ?_⟩
    · obtain ⟨_, vs, q⟩ := r.own b hb
      rw [upd_ne (ne_of_none q hp)]
    · obtain ⟨h0, vs, q⟩ := r.own b hb
      rw [upd_ne (ne_of_none q hp)]
      exact h0
/-- a new owned object beside -/
theorem SI.freshO {p : Addr} {o : HO} (I : SI K Z H σ env F) (hp : H p = none) : Stp Z H F Z (upd H p o) F [p] ∧ SI K Z (upd H p o) σ env F ∧ Z p = none := by
  have hz : Z p = none := by
    cases q : Z p with
    | none => rfl
    | some u => rw [I.sub p u q] at hp; cases hp
  have eh : Ex H (upd H p o) := fun b u e => by rw [upd_ne (ne_of_none e hp)]; exact e
  refine ⟨⟨Same.refl _, fun b u e _ => eh b u e, fun b h => h.elim (fun z => ?_) .inl, fun b hb => .inl hb, fun i b h hc => ?_⟩, ⟨I.len, I.sub.trans eh, fun i x e => ?_, I.non, I.dis⟩, hz⟩
  · have z : b = p := by simpa using z
    subst z; exact .inr hp
  · have z : b = p := by simpa using h
    subst z
    obtain ⟨_, vs, q⟩ := I.own hc
    rw [hp] at q; cases q
  · obtain ⟨v, e1, r⟩ := I.rep i x e
    refine ⟨v, e1, r.mono (Same.refl _) (fun b hb => ?_) fun b hb => (r.own b hb).1⟩
    obtain ⟨_, vs, q⟩ := r.own b hb
    rw [upd_ne (ne_of_none q hp)]
/-- only tracked objects were added -/
theorem SI.grow (I : SI K Z H σ env F) (e : Ex H H') : Stp Z H F Z H' F [] ∧ SI K Z H' σ env F := by
  refine ⟨⟨Same.refl _, fun b u q _ => e b u q, fun b h => h.elim (fun z => by cases z) .inl, fun b hb => .inl hb, fun _ _ h => by cases h⟩, ⟨I.len, I.sub.trans e, fun i x q => ?_, I.non, I.dis⟩⟩
  obtain ⟨v, e1, r⟩ := I.rep i x q
  refine ⟨v, e1, r.mono (Same.refl _) (fun b hb => ?_) fun b hb => (r.own b hb).1⟩
  obtain ⟨_, vs, q⟩ := r.own b hb
  rw [q]
  exact e b _ q
end
end Vi

set_option Elab.async false
set_option linter.all false
set_option maxRecDepth 100000
namespace Vi
open PySem L2

/-! ### slots -/
def setF (F : Fp) (i : Nat) (G : List Addr) : Fp := fun j => if j = i then G else F j
theorem setF_same {F : Fp} {i : Nat} {G : List Addr} : setF F i G i = G := if_pos rfl
theorem setF_ne {F : Fp} {i j : Nat} {G : List Addr} (h : j ≠ i) : setF F i G j = F j := if_neg h
section
variable {K : PySem.W.Frag} {Z Z' Z1 Z2 H H' H1 H2 : Hp} {σ σ' : St} {env env' env2 : Env} {F F' F1 F2 Fc : Fp} {G G' : List Addr} {v : V} {x : OV} {i : Nat}
/-- slot i takes the value v, which lay beside -/
theorem SI.put (I : SI K Z H σ env F) (hi : i < env.length) (r : OR K Z H v x G) (d : ∀ j b, b ∈ G → b ∉ F j) : SI K Z H (σ.set i (some v)) (env.set i (some x)) (setF F i G) := by
  have hσ : i < σ.length := by rw [I.len]; exact hi
  refine ⟨by rw [List.length_set, List.length_set, I.len], I.sub, fun j y e => ?_, fun j hj => ?_, fun j k b hjk hb => ?_⟩
  · by_cases q : i = j
    · subst q
      rw [List.getElem?_set_self hi] at e
      cases e
      exact ⟨v, List.getElem?_set_self hσ, by rw [setF_same]; exact r⟩
    · rw [List.getElem?_set_ne q] at e
      obtain ⟨u, e1, r1⟩ := I.rep j y e
      exact ⟨u, by rw [List.getElem?_set_ne q]; exact e1, by rw [setF_ne (Ne.symm q)]; exact r1⟩
  · by_cases q : i = j
    · subst q
      exact absurd (List.getElem?_set_self hi) (hj x)
    · rw [setF_ne (Ne.symm q)]
      refine I.non j fun y e => hj y ?_
      rw [List.getElem?_set_ne q]; exact e
  · by_cases qj : j = i
    · subst qj
      rw [setF_same] at hb
      rw [setF_ne (Ne.symm hjk)]
      exact d k b hb
    · rw [setF_ne qj] at hb
      by_cases qk : k = i
      · subst qk
        rw [setF_same]
        exact fun z => d j b z hb
      · rw [setF_ne qk]
        exact I.dis j k b hjk hb
/-- slot i lets its value go -/
theorem SI.gone (I : SI K Z H σ env F) (i : Nat) : SI K Z H σ (env.set i none) (setF F i []) := by
  refine ⟨by rw [List.length_set, I.len], I.sub, fun j y e => ?_, fun j hj => ?_, fun j k b hjk hb => ?_⟩
  · by_cases q : i = j
    · subst q
      by_cases hi : i < env.length
      · rw [List.getElem?_set_self hi] at e; cases e
      · rw [List.getElem?_eq_none (by rw [List.length_set]; omega)] at e; cases e
    · rw [List.getElem?_set_ne q] at e
      rw [setF_ne (Ne.symm q)]
      exact I.rep j y e
  · by_cases q : j = i
    · subst q; exact setF_same
    · rw [setF_ne q]
      refine I.non j fun y e => hj y ?_
      rw [List.getElem?_set_ne (Ne.symm q)]; exact e
  · by_cases qj : j = i
    · subst qj; rw [setF_same] at hb; cases hb
    · rw [setF_ne qj] at hb
      by_cases qk : k = i
      · subst qk; rw [setF_same]; exact fun z => by cases z
      · rw [setF_ne qk]; exact I.dis j k b hjk hb
/-- a slot's name forgotten, its value too -/
theorem SI.wipe1 (I : SI K Z H σ env F) (i : Nat) : SI K Z H (σ.set i none) (env.set i none) (setF F i []) := by
  have J := I.gone i
  refine ⟨by rw [List.length_set]; exact J.len, J.sub, fun j y e => ?_, J.non, J.dis⟩
  by_cases q : i = j
  · subst q
    by_cases hi : i < env.length
    · rw [List.getElem?_set_self hi] at e; cases e
    · rw [List.getElem?_eq_none (by rw [List.length_set]; omega)] at e; cases e
  · rw [List.getElem?_set_ne q]
    exact J.rep j y e
/-- slot i's value is read on the side -/
theorem SI.take (I : SI K Z H σ env F) (h : env[i]? = some (some x)) : ∃ v, σ[i]? = some (some v) ∧ OR K Z H v x (F i) ∧ (∀ j b, b ∈ F i → b ∉ setF F i [] j) := by
  obtain ⟨v, e, r⟩ := I.rep i x h
  refine ⟨v, e, r, fun j b hb => ?_⟩
  by_cases q : j = i
  · subst q; rw [setF_same]; exact fun z => by cases z
  · rw [setF_ne q]; exact I.dis i j b (Ne.symm q) hb
/-- what stands beside a step stays as it is -/
theorem SI.frame (s : Stp Z H Fc Z' H' F' G) (I : SI K Z H σ env F) (d : ∀ i j b, b ∈ F i → b ∉ Fc j) (sub : Ex Z' H') : SI K Z' H' σ env F := by
  refine ⟨I.len, sub, fun i x e => ?_, I.non, I.dis⟩
  obtain ⟨v, e1, r⟩ := I.rep i x e
  exact ⟨v, e1, s.keep r fun j b hb => d i j b hb⟩
end

/-! ### results -/
structure Exn where
  c : Nat
  a : Option PyData
inductive Rs (α : Type) where
  | ok (a : α) (env : Env)
  | ex (x : Exn) (env : Env)
  | bad
def Rs.bind {α β : Type} (m : Rs α) (k : α → Env → Rs β) : Rs β := match m with
  | .ok a e => k a e
  | .ex x e => .ex x e
  | .bad => .bad
@[simp] theorem Rs.bind_ok {α β : Type} {a : α} {e : Env} {k : α → Env → Rs β} : (Rs.ok a e).bind k = k a e := rfl
@[simp] theorem Rs.bind_ex {α β : Type} {x : Exn} {e : Env} {k : α → Env → Rs β} : (Rs.ex x e : Rs α).bind k = .ex x e := rfl
@[simp] theorem Rs.bind_bad {α β : Type} {k : α → Env → Rs β} : (Rs.bad : Rs α).bind k = .bad := rfl
abbrev M (α : Type) := Env → Rs α
/-- the value as plain data -/
def Rs.d (m : Rs OV) : Rs PyData := m.bind fun r e => match dOf r with
  | some d => .ok d e
  | none => .bad
/-- a data value as it is -/
def Rs.o (m : Option OV) (e : Env) : Rs OV := match m with
  | some r => .ok r e
  | none => .bad

/-! ### contexts -/
structure Ctx where
  P : Program
  w : World
  K : PySem.W.Frag
  mg : Str → Option Value
  base : Heap
  N : List Str
  scope : Scope
  fn : Str → Bool
  k : Nat
  W : WX
  top : Bool
  exr : Exn → Value → Option Addr → Hp → Prop
theorem takesN {X : Cx} : L2N.Takes X (fun _ _ _ _ => False) := fun _ _ x => by
  obtain ⟨_, _, _, _, _, _, _, _, _, _, _, _, _, _, _, _, z⟩ := x
  exact z.elim
structure Ctx.has (S : Ctx) (X : Cx) : Prop where
  prog : X.prog = S.P
  w : X.w = S.w
  K : X.K = S.K
  mg : X.mg = S.mg
  base : X.base = S.base
  N : X.N = S.N
  scope : X.env.scope = S.scope
  fn : X.fn = S.fn
  calm : X.calm = true
  room : Room S.k X.A
  own : PassesOwn (model X.prog X.w) X.A X.env X.xe
  takes : L2N.Takes X S.W
  top : S.top = true → X.stack = X.env :: X.outer ∧ X.env.frame = some X.env.locals

/-- what must hold so that e gives what is wanted, in all contexts of the kind -/
def wE (S : Ctx) (e : Expr) : TE := fun σ H Q => ∃ t : TE, (∀ X, S.has X → PE X e t) ∧ t σ H Q
def wT (S : Ctx) (e : Expr) : TT := fun σ H Q => ∃ t : TT, (∀ X, S.has X → PT X e t) ∧ t σ H Q
def wW (S : Ctx) (e : Expr) : TT := fun σ H Q => ∃ t : TT, (∀ X, S.has X → PW X e t) ∧ t σ H Q
def wA (S : Ctx) (es : List Expr) : TA := fun σ H Q => ∃ t : TA, (∀ X, S.has X → PA X es t) ∧ t σ H Q
def wS (S : Ctx) (st : Stmt) : TS := fun D σ H => ∃ t : TS, (∀ X, S.has X → PS X st t) ∧ t D σ H
def wSs (S : Ctx) (st : List Stmt) : TS := fun D σ H => ∃ t : TS, (∀ X, S.has X → PSs X st t) ∧ t D σ H
def wG (S : Ctx) (tg : Expr) : TG := fun v σ H Q => ∃ t : TG, (∀ X, S.has X → PG X tg t) ∧ t v σ H Q
def wOp (S : Ctx) (f : Value → Value → Sem Value) : R2 := fun x y H Q => ∃ r : R2, (∀ X, S.has X → OpR X f r) ∧ r x y H Q
section
variable {S : Ctx} {X : Cx} {e : Expr} {es : List Expr} {st : Stmt} {sts : List Stmt} {f : Value → Value → Sem Value}
theorem pe_w (h : S.has X) : PE X e (wE S e) := ⟨fun pins s σ H Q I ⟨t, p, q⟩ => (p X h).run pins s σ H Q I q⟩
theorem pt_w (h : S.has X) : PT X e (wT S e) := ⟨fun pins s σ H Q I ⟨t, p, q⟩ => (p X h).run pins s σ H Q I q⟩
theorem pw_w (h : S.has X) : PW X e (wW S e) := ⟨fun wh pins s σ H Q I ⟨t, p, q⟩ => (p X h).run wh pins s σ H Q I q⟩
theorem pa_w (h : S.has X) : PA X es (wA S es) := ⟨fun pos pins s σ H Q I ⟨t, p, q⟩ => (p X h).run pos pins s σ H Q I q⟩
theorem ps_w (h : S.has X) : PS X st (wS S st) := ⟨fun pins s σ H D I ⟨t, p, q⟩ => (p X h).run pins s σ H D I q⟩
theorem pss_w (h : S.has X) : PSs X sts (wSs S sts) := ⟨fun pins s σ H D I ⟨t, p, q⟩ => (p X h).run pins s σ H D I q⟩
theorem pg_w (h : S.has X) : PG X e (wG S e) := ⟨fun pins s σ H v u Q I r ⟨t, p, q⟩ => (p X h).run pins s σ H v u Q I r q⟩
theorem op_w (h : S.has X) : OpR X f (wOp S f) := fun pins s σ H x y v u Q I rx ry ⟨r, p, q⟩ => p X h pins s σ H x y v u Q I rx ry q
end

/-! ### soundness of a meaning -/
/-- an exception that the meaning tells reaches what is wanted of exceptions -/
def KX (S : Ctx) (σ : St) (Z H : Hp) (F : Fp) {α : Type} (mm : Rs α) : Prop := ∀ x env', mm = .ex x env' → ∀ Z' H' F' cls d, SI S.K Z' H' σ env' F' → Stp Z H F Z' H' F' [] → S.exr x cls d H' → S.W cls d σ H'
theorem KX.step {S : Ctx} {σ : St} {Z H Z1 H1 : Hp} {F F1 : Fp} {α : Type} {mm : Rs α} (k : KX S σ Z H F mm) (s : Stp Z H F Z1 H1 F1 []) : KX S σ Z1 H1 F1 mm :=
  fun x env' e Z' H' F' cls d I t q => k x env' e Z' H' F' cls d I (s.trans0 t) q
theorem KX.of {S : Ctx} {σ : St} {Z H : Hp} {F : Fp} {α β : Type} {mm : Rs α} {nn : Rs β} (k : KX S σ Z H F mm) (h : ∀ x env', nn = .ex x env' → mm = .ex x env') : KX S σ Z H F nn :=
  fun x env' e => k x env' (h x env' e)
theorem KX.bind {S : Ctx} {σ : St} {Z H : Hp} {F : Fp} {α β : Type} {mm : Rs α} {nn : Rs β} {kk : α → Env → Rs β} (k : KX S σ Z H F nn) (h : nn = mm.bind kk) : KX S σ Z H F mm :=
  k.of fun x env' e => by rw [h, e]; rfl
theorem KX.ok {S : Ctx} {σ : St} {Z H : Hp} {F : Fp} {α : Type} {a : α} {e : Env} : KX S σ Z H F (.ok a e) := fun _ _ z => by cases z
/-- an expression is evaluated as m tells -/
def SV (S : Ctx) (e : Expr) (m : M OV) : Prop := ∀ (σ : St) (env : Env) (Z H : Hp) (F : Fp), SI S.K Z H σ env F → ∀ Q : VK,
  (∀ r env', m env = .ok r env' → ∀ v Z' H' F' G, SI S.K Z' H' σ env' F' → OR S.K Z' H' v r G → Stp Z H F Z' H' F' G → Q v H') →
  KX S σ Z H F (m env) → m env ≠ .bad → wE S e σ H Q
/-- .. as data -/
def SD (S : Ctx) (e : Expr) (m : M PyData) : Prop := ∀ (σ : St) (env : Env) (Z H : Hp) (F : Fp), SI S.K Z H σ env F → ∀ Q : VK,
  (∀ d env', m env = .ok d env' → ∀ v Z' H' F', SI S.K Z' H' σ env' F' → Rp Z' v d → Stp Z H F Z' H' F' [] → Q v H') →
  KX S σ Z H F (m env) → m env ≠ .bad → wE S e σ H Q
/-- a test -/
def SB (S : Ctx) (e : Expr) (m : M Bool) : Prop := ∀ (σ : St) (env : Env) (Z H : Hp) (F : Fp), SI S.K Z H σ env F → ∀ Q : Bool → Hp → Prop,
  (∀ b env', m env = .ok b env' → ∀ Z' H' F', SI S.K Z' H' σ env' F' → Stp Z H F Z' H' F' [] → Q b H') →
  KX S σ Z H F (m env) → m env ≠ .bad → wT S e σ H Q
/-- .. of and, or: whatever the whole is -/
def SW (S : Ctx) (e : Expr) (m : M Bool) : Prop := ∀ (σ : St) (env : Env) (Z H : Hp) (F : Fp), SI S.K Z H σ env F → ∀ Q : Bool → Hp → Prop,
  (∀ b env', m env = .ok b env' → ∀ Z' H' F', SI S.K Z' H' σ env' F' → Stp Z H F Z' H' F' [] → Q b H') →
  KX S σ Z H F (m env) → m env ≠ .bad → wW S e σ H Q
/-- several, each as data -/
def SL (S : Ctx) (es : List Expr) (m : M (List PyData)) : Prop := ∀ (σ : St) (env : Env) (Z H : Hp) (F : Fp), SI S.K Z H σ env F → ∀ Q : List V → Hp → Prop,
  (∀ ds env', m env = .ok ds env' → ∀ vs Z' H' F', SI S.K Z' H' σ env' F' → Rps Z' vs ds → Stp Z H F Z' H' F' [] → Q vs H') →
  KX S σ Z H F (m env) → m env ≠ .bad → wA S es σ H Q
/-- several, with what they own -/
def SO (S : Ctx) (es : List Expr) (m : M (List OV)) : Prop := ∀ (σ : St) (env : Env) (Z H : Hp) (F : Fp), SI S.K Z H σ env F → ∀ Q : List V → Hp → Prop,
  (∀ rs env', m env = .ok rs env' → ∀ vs Z' H' F' G, SI S.K Z' H' σ env' F' → ORs S.K Z' H' vs rs G → Stp Z H F Z' H' F' G → Q vs H') →
  KX S σ Z H F (m env) → m env ≠ .bad → wA S es σ H Q

section
variable {S : Ctx} {a b e : Expr} {ma mb m : M OV} {da db : M PyData} {σ : St} {env : Env} {Z H : Hp} {F : Fp} {β : Type}
theorem OR.nn {K : PySem.W.Frag} {Z H : Hp} {v : V} {x : OV} {G : List Addr} (r : OR K Z H v x G) : ∀ b, b ∈ G → Z b = none ∧ H b ≠ none := fun b hb => by
  obtain ⟨h, vs, e⟩ := r.own b hb
  exact ⟨h, fun z => by rw [e] at z; cases z⟩
theorem ORs.nn {K : PySem.W.Frag} {Z H : Hp} {v : List V} {x : List OV} {G : List Addr} (r : ORs K Z H v x G) : ∀ b, b ∈ G → Z b = none ∧ H b ≠ none := fun b hb => by
  obtain ⟨h, vs, e⟩ := r.own b hb
  exact ⟨h, fun z => by rw [e] at z; cases z⟩
theorem bind_nb {α : Type} {mm : Rs α} {nn : Rs β} {kk : α → Env → Rs β} (h : nn = mm.bind kk) (kb : nn ≠ .bad) : mm ≠ .bad := fun z => kb (by rw [h, z]; rfl)
/-- first e, then the rest -/
theorem SV.go (h : SV S e m) (I : SI S.K Z H σ env F) {mm : Rs β} {kk : OV → Env → Rs β} (hm : mm = (m env).bind kk) (kx : KX S σ Z H F mm) (kb : mm ≠ .bad) {Q : VK}
    (k : ∀ r env1 v Z1 H1 F1 G, m env = .ok r env1 → mm = kk r env1 → SI S.K Z1 H1 σ env1 F1 → OR S.K Z1 H1 v r G → Stp Z H F Z1 H1 F1 G → Q v H1) : wE S e σ H Q :=
  h σ env Z H F I Q (fun r env1 e v Z1 H1 F1 G I1 r1 s1 => k r env1 v Z1 H1 F1 G e (by rw [hm, e]; rfl) I1 r1 s1) (kx.bind hm) (bind_nb hm kb)
theorem SD.go {m : M PyData} (h : SD S e m) (I : SI S.K Z H σ env F) {mm : Rs β} {kk : PyData → Env → Rs β} (hm : mm = (m env).bind kk) (kx : KX S σ Z H F mm) (kb : mm ≠ .bad) {Q : VK}
    (k : ∀ d env1 v Z1 H1 F1, m env = .ok d env1 → mm = kk d env1 → SI S.K Z1 H1 σ env1 F1 → Rp Z1 v d → Stp Z H F Z1 H1 F1 [] → Q v H1) : wE S e σ H Q :=
  h σ env Z H F I Q (fun r env1 e v Z1 H1 F1 I1 r1 s1 => k r env1 v Z1 H1 F1 e (by rw [hm, e]; rfl) I1 r1 s1) (kx.bind hm) (bind_nb hm kb)
theorem SB.go {m : M Bool} (h : SB S e m) (I : SI S.K Z H σ env F) {mm : Rs β} {kk : Bool → Env → Rs β} (hm : mm = (m env).bind kk) (kx : KX S σ Z H F mm) (kb : mm ≠ .bad) {Q : Bool → Hp → Prop}
    (k : ∀ d env1 Z1 H1 F1, m env = .ok d env1 → mm = kk d env1 → SI S.K Z1 H1 σ env1 F1 → Stp Z H F Z1 H1 F1 [] → Q d H1) : wT S e σ H Q :=
  h σ env Z H F I Q (fun r env1 e Z1 H1 F1 I1 s1 => k r env1 Z1 H1 F1 e (by rw [hm, e]; rfl) I1 s1) (kx.bind hm) (bind_nb hm kb)
theorem SL.go {es : List Expr} {m : M (List PyData)} (h : SL S es m) (I : SI S.K Z H σ env F) {mm : Rs β} {kk : List PyData → Env → Rs β} (hm : mm = (m env).bind kk) (kx : KX S σ Z H F mm) (kb : mm ≠ .bad) {Q : List V → Hp → Prop}
    (k : ∀ ds env1 vs Z1 H1 F1, m env = .ok ds env1 → mm = kk ds env1 → SI S.K Z1 H1 σ env1 F1 → Rps Z1 vs ds → Stp Z H F Z1 H1 F1 [] → Q vs H1) : wA S es σ H Q :=
  h σ env Z H F I Q (fun r env1 e v Z1 H1 F1 I1 r1 s1 => k r env1 v Z1 H1 F1 e (by rw [hm, e]; rfl) I1 r1 s1) (kx.bind hm) (bind_nb hm kb)
theorem SO.go {es : List Expr} {m : M (List OV)} (h : SO S es m) (I : SI S.K Z H σ env F) {mm : Rs β} {kk : List OV → Env → Rs β} (hm : mm = (m env).bind kk) (kx : KX S σ Z H F mm) (kb : mm ≠ .bad) {Q : List V → Hp → Prop}
    (k : ∀ rs env1 vs Z1 H1 F1 G, m env = .ok rs env1 → mm = kk rs env1 → SI S.K Z1 H1 σ env1 F1 → ORs S.K Z1 H1 vs rs G → Stp Z H F Z1 H1 F1 G → Q vs H1) : wA S es σ H Q :=
  h σ env Z H F I Q (fun r env1 e v Z1 H1 F1 G I1 r1 s1 => k r env1 v Z1 H1 F1 G e (by rw [hm, e]; rfl) I1 r1 s1) (kx.bind hm) (bind_nb hm kb)
theorem SV.of (h : ∀ (σ : St) (env : Env) (Z H : Hp) (F : Fp), SI S.K Z H σ env F → ∀ (Q : VK) (mm : Rs OV), mm = m env →
    (∀ r env', mm = .ok r env' → ∀ v Z' H' F' G, SI S.K Z' H' σ env' F' → OR S.K Z' H' v r G → Stp Z H F Z' H' F' G → Q v H') → KX S σ Z H F mm → mm ≠ .bad → wE S e σ H Q) : SV S e m :=
  fun σ env Z H F I Q k kx kb => h σ env Z H F I Q _ rfl k kx kb
theorem SD.of {m : M PyData} (h : ∀ (σ : St) (env : Env) (Z H : Hp) (F : Fp), SI S.K Z H σ env F → ∀ (Q : VK) (mm : Rs PyData), mm = m env →
    (∀ d env', mm = .ok d env' → ∀ v Z' H' F', SI S.K Z' H' σ env' F' → Rp Z' v d → Stp Z H F Z' H' F' [] → Q v H') → KX S σ Z H F mm → mm ≠ .bad → wE S e σ H Q) : SD S e m :=
  fun σ env Z H F I Q k kx kb => h σ env Z H F I Q _ rfl k kx kb
theorem SB.of {m : M Bool} (h : ∀ (σ : St) (env : Env) (Z H : Hp) (F : Fp), SI S.K Z H σ env F → ∀ (Q : Bool → Hp → Prop) (mm : Rs Bool), mm = m env →
    (∀ b env', mm = .ok b env' → ∀ Z' H' F', SI S.K Z' H' σ env' F' → Stp Z H F Z' H' F' [] → Q b H') → KX S σ Z H F mm → mm ≠ .bad → wT S e σ H Q) : SB S e m :=
  fun σ env Z H F I Q k kx kb => h σ env Z H F I Q _ rfl k kx kb
theorem SW.of {m : M Bool} (h : ∀ (σ : St) (env : Env) (Z H : Hp) (F : Fp), SI S.K Z H σ env F → ∀ (Q : Bool → Hp → Prop) (mm : Rs Bool), mm = m env →
    (∀ b env', mm = .ok b env' → ∀ Z' H' F', SI S.K Z' H' σ env' F' → Stp Z H F Z' H' F' [] → Q b H') → KX S σ Z H F mm → mm ≠ .bad → wW S e σ H Q) : SW S e m :=
  fun σ env Z H F I Q k kx kb => h σ env Z H F I Q _ rfl k kx kb
theorem SL.of {es : List Expr} {m : M (List PyData)} (h : ∀ (σ : St) (env : Env) (Z H : Hp) (F : Fp), SI S.K Z H σ env F → ∀ (Q : List V → Hp → Prop) (mm : Rs (List PyData)), mm = m env →
    (∀ ds env', mm = .ok ds env' → ∀ vs Z' H' F', SI S.K Z' H' σ env' F' → Rps Z' vs ds → Stp Z H F Z' H' F' [] → Q vs H') → KX S σ Z H F mm → mm ≠ .bad → wA S es σ H Q) : SL S es m :=
  fun σ env Z H F I Q k kx kb => h σ env Z H F I Q _ rfl k kx kb
theorem SO.of {es : List Expr} {m : M (List OV)} (h : ∀ (σ : St) (env : Env) (Z H : Hp) (F : Fp), SI S.K Z H σ env F → ∀ (Q : List V → Hp → Prop) (mm : Rs (List OV)), mm = m env →
    (∀ rs env', mm = .ok rs env' → ∀ vs Z' H' F' G, SI S.K Z' H' σ env' F' → ORs S.K Z' H' vs rs G → Stp Z H F Z' H' F' G → Q vs H') → KX S σ Z H F mm → mm ≠ .bad → wA S es σ H Q) : SO S es m :=
  fun σ env Z H F I Q k kx kb => h σ env Z H F I Q _ rfl k kx kb
theorem SW.go {m : M Bool} (h : SW S e m) (I : SI S.K Z H σ env F) {mm : Rs β} {kk : Bool → Env → Rs β} (hm : mm = (m env).bind kk) (kx : KX S σ Z H F mm) (kb : mm ≠ .bad) {Q : Bool → Hp → Prop}
    (k : ∀ d env1 Z1 H1 F1, m env = .ok d env1 → mm = kk d env1 → SI S.K Z1 H1 σ env1 F1 → Stp Z H F Z1 H1 F1 [] → Q d H1) : wW S e σ H Q :=
  h σ env Z H F I Q (fun r env1 e Z1 H1 F1 I1 s1 => k r env1 Z1 H1 F1 e (by rw [hm, e]; rfl) I1 s1) (kx.bind hm) (bind_nb hm kb)
/-- a meaning that is the same -/
theorem SV.congr {m m' : M OV} (h : SV S e m) (q : ∀ env, m' env = m env) : SV S e m' := by
  have : m' = m := funext q
  rw [this]; exact h
theorem SD.congr {m m' : M PyData} (h : SD S e m) (q : ∀ env, m' env = m env) : SD S e m' := by
  have : m' = m := funext q
  rw [this]; exact h
/-- as data -/
theorem SV.d (h : SV S e m) : SD S e (fun env => (m env).d) := fun σ env Z H F I Q k kx kb => by
  refine h.go I rfl kx kb fun r env1 v Z1 H1 F1 G e1 e2 I1 r1 s1 => ?_
  cases q : dOf r with
  | none =>
    rw [q] at e2
    exact absurd e2 kb
  | some d =>
    rw [q] at e2
    obtain ⟨s2, I2⟩ := s1.freeze I1 r1.nn
    exact k d env1 e2 v _ H1 F1 I2 (r1.rp (frz_ex fun b hb => (r1.nn b hb).1) (fun b hb => frz_in hb) q) s2
theorem SD.v {m : M PyData} (h : SD S e m) : SV S e (fun env => (m env).bind fun d env' => .ok (.fz d) env') := fun σ env Z H F I Q k kx kb =>
  h.go I rfl kx kb fun d env1 v Z1 H1 F1 e1 e2 I1 r1 s1 => k (.fz d) env1 e2 v Z1 H1 F1 [] I1 (.fz r1) s1

/-! ### constants and names -/
theorem sd_non {j pos} : SD S (.Constant .none j pos) (fun env => .ok .none env) := fun σ env Z H F I Q k _ _ => ⟨_, fun X hX => pe_non, k _ _ rfl _ Z H F I .non .refl⟩
theorem sd_bl {b j pos} : SD S (.Constant (.bool b) j pos) (fun env => .ok (.bool b) env) := fun σ env Z H F I Q k _ _ => ⟨_, fun X hX => pe_bl, k _ _ rfl _ Z H F I (.bl b) .refl⟩
theorem sd_int {i j pos} : SD S (.Constant (.int i) j pos) (fun env => .ok (.int i) env) := fun σ env Z H F I Q k _ _ => ⟨_, fun X hX => pe_int, k _ _ rfl _ Z H F I (.int i) .refl⟩
theorem sd_str {x j pos} (hx : StrG x) : SD S (.Constant (.str x) j pos) (fun env => .ok (.str x) env) := fun σ env Z H F I Q k _ _ => ⟨_, fun X hX => pe_str, k _ _ rfl _ Z H F I (.str x hx) .refl⟩
/-- a module's constant -/
theorem sd_gi {x : Str} {i : Int} {t : Tok} {pos} (hg : S.scope.names.lookup x = some .globalImplicit) (hm : S.mg x = some (.int i t)) (hd : (x == ("__debug__" : Str)) = false) : SD S (.Name x pos) (fun env => .ok (.int i) env) :=
  fun σ env Z H F I Q k _ _ => ⟨_, fun X hX => pe_glob (by show X.env.scope.names.lookup x = _; rw [hX.scope]; exact hg) (by rw [hX.mg]; exact hm) (v := .int i) ⟨t, rfl⟩ hd, k _ _ rfl _ Z H F I (.int i) .refl⟩
theorem sd_gs {x y : Str} {t : Tok} {pos} (hg : S.scope.names.lookup x = some .globalImplicit) (hm : S.mg x = some (.str y t)) (hy : StrG y) (hd : (x == ("__debug__" : Str)) = false) : SD S (.Name x pos) (fun env => .ok (.str y) env) :=
  fun σ env Z H F I Q k _ _ => ⟨_, fun X hX => pe_glob (by show X.env.scope.names.lookup x = _; rw [hX.scope]; exact hg) (by rw [hX.mg]; exact hm) (v := .str y) ⟨t, rfl⟩ hd, k _ _ rfl _ Z H F I (.str y hy) .refl⟩

/-- how a name's slot is read -/
structure NameOk (S : Ctx) (i : Nat) (x : Str) : Prop where
  at_ : S.N[i]? = some x
  vis : Vis S.scope x
  nd : (x == ("__debug__" : Str)) = false
  nc : (x == ("__classdict__" : Str)) = false
theorem NameOk.pe {i : Nat} {x : Str} {pos : Pos} (n : NameOk S i x) {X : Cx} (h : S.has X) : PE X (.Name x pos) (tVar i) :=
  pe_var (by rw [h.N]; exact n.at_) (by rw [h.scope]; exact n.vis) n.nd n.nc
/-- a name: its data; what is owned is frozen by being read -/
def rdVar (i : Nat) : M OV := fun env => match env[i]? with
  | some (some (.fz d)) => .ok (.fz d) env
  | some (some (.ol xs)) => (match dsOf xs with
    | some ds => .ok (.fz (.list ds)) (env.set i (some (.fz (.list ds))))
    | none => .bad)
  | _ => .bad
theorem rdVar_fz {i : Nat} {d : PyData} (h : env[i]? = some (some (.fz d))) : rdVar i env = .ok (.fz d) env := by simp [rdVar, h]
theorem rdVar_ol {i : Nat} {xs : List OV} {ds : List PyData} (h : env[i]? = some (some (.ol xs))) (q : dsOf xs = some ds) : rdVar i env = .ok (.fz (.list ds)) (env.set i (some (.fz (.list ds)))) := by simp [rdVar, h, q]
theorem rdVar_nb {i : Nat} (h : rdVar i env ≠ .bad) : (∃ d, env[i]? = some (some (.fz d))) ∨ ∃ xs ds, env[i]? = some (some (.ol xs)) ∧ dsOf xs = some ds := by
  unfold rdVar at h
  cases q : env[i]? with
  | none => rw [q] at h; exact absurd rfl h
  | some o =>
    cases o with
    | none => rw [q] at h; exact absurd rfl h
    | some y =>
      cases y with
      | fz d => exact .inl ⟨d, rfl⟩
      | sc ns => rw [q] at h; exact absurd rfl h
      | rg i j => rw [q] at h; exact absurd rfl h
      | ol xs =>
        refine .inr ⟨xs, ?_⟩
        rw [q] at h
        cases qd : dsOf xs with
        | none => simp [qd] at h
        | some ds => exact ⟨ds, rfl, rfl⟩
theorem take_stp {K : PySem.W.Frag} {Z H : Hp} {F : Fp} {i : Nat} (dj : ∀ j b, b ∈ F i → b ∉ setF F i [] j) : Stp Z H F Z H (setF F i []) (F i) :=
  ⟨Same.refl _, fun _ _ h _ => h, fun b h => h.elim (fun z => .inl ⟨i, z⟩) fun ⟨j, z⟩ => by
    by_cases qj : j = i
    · subst qj; rw [setF_same] at z; cases z
    · rw [setF_ne qj] at z; exact .inl ⟨j, z⟩, fun _ h => .inl h, fun j b hb => dj j b hb⟩
/-- a slot's owned list is frozen where it lies -/
theorem SI.frzAt {i : Nat} {xs : List OV} {ds : List PyData} (I : SI S.K Z H σ env F) (q : env[i]? = some (some (.ol xs))) (qd : dsOf xs = some ds) :
    ∃ v Z', σ[i]? = some (some v) ∧ Rp Z' v (.list ds) ∧ SI S.K Z' H σ (env.set i (some (.fz (.list ds)))) (setF F i []) ∧ Stp Z H F Z' H (setF F i []) [] := by
  have hi : i < env.length := (List.getElem?_eq_some_iff.mp q).1
  obtain ⟨v, ev, r, dj⟩ := I.take q
  have J := I.gone i
  obtain ⟨s2, J2⟩ := (take_stp (K := S.K) (Z := Z) (H := H) dj).freeze J r.nn
  have rr : Rp (frz Z H (F i)) v (.list ds) := r.rp (frz_ex fun b hb => (r.nn b hb).1) (fun b hb => frz_in hb) (by show (dsOf xs).map PyData.list = _; rw [qd]; rfl)
  have J3 := J2.put (i := i) (x := .fz (.list ds)) (G := []) (by rw [List.length_set]; exact hi) (.fz rr) fun _ _ z => by cases z
  have eσ : σ.set i (some v) = σ := by
    obtain ⟨hs, he⟩ := List.getElem?_eq_some_iff.mp ev
    rw [← he]; exact List.set_getElem_self hs
  rw [eσ, List.set_set] at J3
  have eF : setF (setF F i []) i [] = setF F i [] := by
    funext j
    by_cases qj : j = i
    · subst qj; rw [setF_same, setF_same]
    · rw [setF_ne qj, setF_ne qj]
  rw [eF] at J3
  exact ⟨v, _, ev, rr, J3, s2⟩
theorem sv_var {i : Nat} {x : Str} {pos : Pos} (n : NameOk S i x) : SV S (.Name x pos) (rdVar i) := fun σ env Z H F I Q k kx kb => by
  refine ⟨_, fun X hX => n.pe hX, ?_⟩
  rcases rdVar_nb kb with ⟨d, q⟩ | ⟨xs, ds, q, qd⟩
  · obtain ⟨v, ev, r⟩ := I.rep i _ q
    exact ⟨v, ev, k _ _ (rdVar_fz q) v Z H F _ I r (by generalize hG : F i = G at r; cases r; exact .refl)⟩
  · obtain ⟨v, Z', ev, rr, J, s⟩ := I.frzAt q qd
    exact ⟨v, ev, k _ _ (rdVar_ol q qd) v Z' H _ [] J (.fz rr) s⟩
/-- an owned list moves out -/
def mvVar (i : Nat) : M OV := fun env => match env[i]? with
  | some (some (.ol xs)) => .ok (.ol xs) (env.set i none)
  | _ => rdVar i env
theorem mvVar_ol {i : Nat} {xs : List OV} (h : env[i]? = some (some (.ol xs))) : mvVar i env = .ok (.ol xs) (env.set i none) := by simp [mvVar, h]
theorem sv_mv {i : Nat} {x : Str} {pos : Pos} (n : NameOk S i x) : SV S (.Name x pos) (mvVar i) := fun σ env Z H F I Q k kx kb => by
  by_cases hq : ∃ xs, env[i]? = some (some (.ol xs))
  · refine ⟨_, fun X hX => n.pe hX, ?_⟩
    obtain ⟨xs, q⟩ := hq
    obtain ⟨v, ev, r, dj⟩ := I.take q
    exact ⟨v, ev, k _ _ (mvVar_ol q) v Z H _ (F i) (I.gone i) r (take_stp (K := S.K) dj)⟩
  · have e : mvVar i env = rdVar i env := by
      unfold mvVar
      split
      · rename_i xs q; exact absurd ⟨xs, q⟩ hq
      · rfl
    rw [e] at k kx kb
    exact sv_var n σ env Z H F I Q k kx kb
end
end Vi

set_option Elab.async false
set_option linter.all false
set_option maxRecDepth 100000
namespace Vi
open PySem L2

/-! ### new objects -/
section
variable {K : PySem.W.Frag} {Z H : Hp} {σ : St} {env : Env} {F : Fp} {p : Addr} {vs : List V} {ds : List PyData}
theorem ors_fz {Z H : Hp} : ∀ {vs : List V} {ds : List PyData}, Rps Z vs ds → ORs K Z H vs (ds.map .fz) []
  | _, _, .nil => .nil
  | _, _, .cons h r => .cons (F := []) (G := []) (.fz h) (ors_fz r) fun b z => by cases z
theorem SI.newL (I : SI K Z H σ env F) (hp : H p = none) (r : Rps Z vs ds) (hl : vs.length ≤ sizeLine) :
    SI K Z (upd H p (.lst vs)) σ env F ∧ OR K Z (upd H p (.lst vs)) (.ref p) (.ol (ds.map .fz)) [p] ∧ Stp Z H F Z (upd H p (.lst vs)) F [p] := by
  obtain ⟨s, I', hz⟩ := I.freshO (o := .lst vs) hp
  exact ⟨I', .ol hz upd_same hl (ors_fz r) (by simp), s⟩
theorem SI.newT (I : SI K Z H σ env F) (hp : H p = none) (r : Rps Z vs ds) (hl : vs.length ≤ sizeLine) :
    SI K (upd Z p (.tup vs)) (upd H p (.tup vs)) σ env F ∧ Rp (upd Z p (.tup vs)) (.ref p) (.tuple ds) ∧ Stp Z H F (upd Z p (.tup vs)) (upd H p (.tup vs)) F [] := by
  obtain ⟨s, I'⟩ := I.fresh (o := .tup vs) hp
  exact ⟨I', .tup upd_same hl (r.mono s.zz), s⟩
theorem SI.at (I : SI K Z H σ env F) {v : V} {d : PyData} (r : Rp Z v d) : Rp H v d := r.mono I.sub
end
theorem StrG.append {a b : Str} (ha : StrG a) (hb : StrG b) (h : a.length + b.length ≤ sizeLine) : StrG (a ++ b) := by
  refine ⟨?_, ?_⟩
  · show (a.cps ++ b.cps).size ≤ sizeLine
    rw [Array.size_append]; exact h
  · show (a.cps ++ b.cps).all (· < 0x110000) = true
    rw [Array.all_append, ha.2, hb.2]; rfl

/-! ### two data make one -/
/-- the factors of a product are small enough -/
def mulG (a b : Int) : Bool := decide (a.natAbs < 2 ^ 64) || decide (b.natAbs < 2 ^ 64) || decide (a.natAbs.log2 + b.natAbs.log2 < 1000000)
def addD : PyData → PyData → Option OV
  | .int a, .int b => some (.fz (.int (a + b)))
  | .str a, .str b => if a.length + b.length ≤ sizeLine then some (.fz (.str (a ++ b))) else none
  | .list a, .list b => if a.length + b.length ≤ sizeLine then some (.ol ((a ++ b).map .fz)) else none
  | .tuple a, .tuple b => if a ≠ [] ∧ a.length + b.length ≤ sizeLine then some (.fz (.tuple (a ++ b))) else none
  | _, _ => none
def subD : PyData → PyData → Option OV
  | .int a, .int b => some (.fz (.int (a - b)))
  | _, _ => none
def mulD : PyData → PyData → Option OV
  | .int a, .int b => if mulG a b = true then some (.fz (.int (a * b))) else none
  | .list a, .int k => if k < 2 ^ 62 ∧ -(2 ^ 62) < k ∧ a.length * k.toNat ≤ sizeLine then some (.ol ((List.replicate k.toNat a).flatten.map .fz)) else none
  | .str a, .int k => if k < 2 ^ 62 ∧ -(2 ^ 62) < k ∧ a.length * k.toNat ≤ sizeLine then some (.fz (.str ⟨(List.replicate k.toNat a.cps.toList).flatten.toArray⟩)) else none
  | _, _ => none
def fdivD : PyData → PyData → Option OV
  | .int a, .int b => if 0 < b ∧ b.natAbs.log2 < 9000 then some (.fz (.int (a / b))) else none
  | _, _ => none
def modD : PyData → PyData → Option OV
  | .int a, .int b => if 0 < b then some (.fz (.int (a % b))) else none
  | _, _ => none
def powD : PyData → PyData → Option OV
  | .int a, .int b => if 0 ≤ b ∧ b ≤ 1000000 ∧ a.natAbs < 2 ^ 64 then some (.fz (.int (a ^ b.toNat))) else none
  | _, _ => none
def binD (op : Operator) (a b : PyData) : Option OV := match op with
  | .Add => addD a b
  | .Sub => subD a b
  | .Mult => mulD a b
  | .FloorDiv => fdivD a b
  | .Mod => modD a b
  | .Pow => powD a b
  | _ => none

/-- an operator on values keeps to g -/
def OpOk (S : Ctx) (f : Value → Value → Sem Value) (g : PyData → PyData → Option OV) : Prop := ∀ (σ : St) (env : Env) (Z H : Hp) (F : Fp) (x y : V) (dx dy : PyData) (r : OV), SI S.K Z H σ env F → Rp Z x dx → Rp Z y dy → g dx dy = some r →
  ∀ Q : VK, (∀ v Z' H' G, SI S.K Z' H' σ env F → OR S.K Z' H' v r G → Stp Z H F Z' H' F G → Q v H') → wOp S f x y H Q
/-- a op b -/
def bin2 (ma mb : M PyData) (g : PyData → PyData → Option OV) : M OV := fun env => (ma env).bind fun da e1 => (mb e1).bind fun db e2 => Rs.o (g da db) e2
section
variable {S : Ctx} {a b e : Expr} {ma mb : M PyData} {g : PyData → PyData → Option OV} {pos : Pos}
theorem ro_nb {m : Option OV} {e : Env} (h : Rs.o m e ≠ .bad) : ∃ r, m = some r := by
  cases m with
  | none => exact absurd rfl h
  | some r => exact ⟨r, rfl⟩
theorem sv_bin {op : Operator} (ha : SD S a ma) (hb : SD S b mb) (ho : OpOk S (binaryOp op) g) : SV S (.BinOp a op b pos) (bin2 ma mb g) := .of fun σ env Z H F I Q mm hm k kx kb => by
  refine ⟨tOp (wOp S (binaryOp op)) (wE S a) (wE S b), fun X hX => pe_op (op_w hX) (pe_w hX) (pe_w hX), ?_⟩
  refine ha.go I hm kx kb fun da e1 va Z1 H1 F1 _ q1 I1 r1 s1 => ?_
  refine hb.go I1 q1 (kx.step s1) kb fun db e2 vb Z2 H2 F2 _ q2 I2 r2 s2 => ?_
  rw [q2] at kb
  obtain ⟨r, hr⟩ := ro_nb kb
  refine ho σ e2 Z2 H2 F2 va vb da db r I2 (r1.mono s2.zz) r2 hr Q fun v Z' H' G I' o' s' => ?_
  exact k r e2 (by rw [q2, hr]; rfl) v Z' H' F2 G I' o' ((s1.trans0 s2).trans0 s')
/-! the operators -/
theorem wop_mk {f : Value → Value → Sem Value} {R : R2} {x y : V} {H : Hp} {Q : VK} (h : ∀ X, S.has X → OpR X f R) (q : R x y H Q) : wOp S f x y H Q := ⟨R, h, q⟩
theorem k_fz {σ : St} {env : Env} {Z H : Hp} {F : Fp} {r : OV} {Q : VK} (I : SI S.K Z H σ env F) (k : ∀ v Z' H' G, SI S.K Z' H' σ env F → OR S.K Z' H' v r G → Stp Z H F Z' H' F G → Q v H') {v : V} {d : PyData} (e : r = .fz d) (h : Rp Z v d) : Q v H := by
  subst e
  exact k v Z H [] I (.fz h) .refl
theorem ok_add : OpOk S (binaryOp .Add) addD := by
  intro σ env Z H F x y dx dy r I rx ry hr Q k
  cases rx with
  | int i =>
    cases ry with
    | int j =>
      have e : r = .fz (.int (i + j)) := (Option.some.inj hr).symm
      exact wop_mk (fun X hX => op_add) ⟨i, j, rfl, rfl, k_fz I k e (.int _)⟩
    | _ => cases hr
  | str a ha =>
    cases ry with
    | str b hb =>
      simp only [addD] at hr
      split at hr
      · rename_i hl
        have e : r = .fz (.str (a ++ b)) := (Option.some.inj hr).symm
        exact wop_mk (fun X hX => op_add_str) ⟨a, b, rfl, rfl, hl, k_fz I k e (.str _ (ha.append hb hl))⟩
      · cases hr
    | _ => cases hr
  | lst h1 l1 r1 =>
    rename_i p1 vs1 ds1
    cases ry with
    | lst h2 l2 r2 =>
      rename_i p2 vs2 ds2
      simp only [addD] at hr
      split at hr
      · rename_i hl
        have e : r = .ol ((ds1 ++ ds2).map .fz) := (Option.some.inj hr).symm
        have hv : vs1.length + vs2.length ≤ sizeLine := by rw [r1.length, r2.length]; exact hl
        refine wop_mk (fun X hX => op_cat) ⟨p1, p2, vs1, vs2, rfl, rfl, I.sub _ _ h1, I.sub _ _ h2, hv, fun p hp => ?_⟩
        obtain ⟨I', o', s'⟩ := I.newL hp (r1.append r2) (by rw [List.length_append]; exact hv)
        rw [e] at k
        exact k _ _ _ _ I' o' s'
      · cases hr
    | _ => cases hr
  | tup h1 l1 r1 =>
    rename_i p1 vs1 ds1
    cases ry with
    | tup h2 l2 r2 =>
      rename_i p2 vs2 ds2
      simp only [addD] at hr
      split at hr
      · rename_i hl
        have e : r = .fz (.tuple (ds1 ++ ds2)) := (Option.some.inj hr).symm
        have hv : vs1.length + vs2.length ≤ sizeLine := by rw [r1.length, r2.length]; exact hl.2
        have hne : vs1 ≠ [] := fun z => by
          have := r1.length
          rw [z] at this
          exact hl.1 (List.eq_nil_of_length_eq_zero this.symm)
        refine wop_mk (R := rCatT S.K) (fun X hX => by rw [← hX.K]; exact op_catT) ⟨p1, p2, vs1, vs2, rfl, rfl, .inl (.inl (I.sub _ _ h1)), .inl (.inl (I.sub _ _ h2)), hne, hv, fun z => ?_, fun _ p hp => ?_⟩
        · have z2 : ds2 = [] := by
            have := r2.length
            rw [z] at this
            exact List.eq_nil_of_length_eq_zero this.symm
          rw [z2, List.append_nil] at e
          exact k_fz I k e (.tup h1 l1 r1)
        · obtain ⟨I', o', s'⟩ := I.newT hp (r1.append r2) (by rw [List.length_append]; exact hv)
          rw [e] at k
          exact k _ _ _ _ I' (.fz o') s'
      · cases hr
    | _ => cases hr
  | _ => cases hr
theorem ok_sub : OpOk S (binaryOp .Sub) subD := by
  intro σ env Z H F x y dx dy r I rx ry hr Q k
  cases rx with
  | int i =>
    cases ry with
    | int j => exact wop_mk (fun X hX => op_sub) ⟨i, j, rfl, rfl, k_fz I k (Option.some.inj hr).symm (.int _)⟩
    | _ => cases hr
  | _ => cases hr
theorem mulG_ok {a b : Int} (h : mulG a b = true) : CMul a b ∨ CMulW a b := by
  unfold mulG at h
  simp only [Bool.or_eq_true, decide_eq_true_eq] at h
  rcases h with (h | h) | h
  · exact .inl (.inl (by omega))
  · exact .inl (.inr (by omega))
  · exact .inr h
theorem rep_eq (x : Array Nat) : ∀ k : Nat, (List.replicate k x).foldl (· ++ ·) #[] = (List.replicate k x.toList).flatten.toArray := fun k => by
  have g : ∀ (k : Nat) (acc : Array Nat), (List.replicate k x).foldl (· ++ ·) acc = (acc.toList ++ (List.replicate k x.toList).flatten).toArray := by
    intro k
    induction k with
    | zero => intro acc; simp
    | succ k ih => intro acc; rw [List.replicate_succ, List.foldl_cons, ih, List.replicate_succ, List.flatten_cons]; simp
  simpa using g k #[]
theorem mul_rep (x : Str) (k : Int) : Txt.mul x k = ⟨(List.replicate k.toNat x.cps.toList).flatten.toArray⟩ := by
  unfold Txt.mul
  split
  · rename_i h
    have : k.toNat = 0 := by omega
    rw [this]; rfl
  · split
    · rename_i h h2
      simp only [Bool.or_eq_true, beq_iff_eq] at h2
      rcases h2 with h2 | h2
      · subst h2
        show x = ⟨(List.replicate 1 x.cps.toList).flatten.toArray⟩
        simp
      · have : x.cps.toList = [] := List.eq_nil_of_length_eq_zero (by rw [Array.length_toList]; exact h2)
        rw [this]
        have e : (List.replicate k.toNat ([] : List Nat)).flatten = [] := by simp
        rw [e]
        cases x with
        | mk c =>
          have : c = #[] := Array.toList_eq_nil_iff.mp this
          rw [this]
    · rw [rep_eq]
theorem mem_rep {α : Type} {x : List α} {a : α} : ∀ {k : Nat}, a ∈ (List.replicate k x).flatten → a ∈ x := fun {k} h => by
  obtain ⟨l, hl, ha⟩ := List.mem_flatten.mp h
  rw [List.eq_of_mem_replicate hl] at ha
  exact ha
theorem len_rep {α : Type} (x : List α) : ∀ k : Nat, ((List.replicate k x).flatten).length = k * x.length := fun k => by
  induction k with
  | zero => simp
  | succ k ih => rw [List.replicate_succ, List.flatten_cons, List.length_append, ih, Nat.succ_mul]; omega
theorem StrG.mem {x : Str} (h : StrG x) : ∀ c ∈ x.cps.toList, c < 0x110000 := fun c hc => by
  have := h.2
  rw [Array.all_eq_true'] at this
  exact of_decide_eq_true (this c (Array.mem_toList_iff.mp hc))
theorem StrG.of {l : List Nat} (h1 : l.length ≤ sizeLine) (h2 : ∀ c ∈ l, c < 0x110000) : StrG ⟨l.toArray⟩ := by
  refine ⟨h1, ?_⟩
  show l.toArray.all (· < 0x110000) = true
  rw [List.all_toArray, List.all_eq_true]
  exact fun c hc => decide_eq_true (h2 c hc)
theorem op_mul_str {X : Cx} : OpR X (binaryOp .Mult) (fun x y H Q => ∃ a k, x = .str a ∧ y = .int k ∧ a.length ≤ sizeLine ∧ k < 2 ^ 62 ∧ -(2 ^ 62) < k ∧ a.length * k.toNat ≤ sizeLine ∧ Q (.str ⟨(List.replicate k.toNat a.cps.toList).flatten.toArray⟩) H) := by
  intro pins s σ H x y v u Q I rx ry h
  obtain ⟨a, k, rfl, rfl, ha, h1, h2, h3, q⟩ := h
  obtain ⟨t, rfl⟩ := rx
  obtain ⟨t', rfl⟩ := ry
  refine SB.mul ⟨?_, fun n1 n2 => ?_, fun n1 n2 => ?_⟩ fun t'' tk => ?_
  · simp only [Bool.or_eq_false_iff, decide_eq_false_iff_not]; omega
  · intro z
    have hk : 0 < k := by omega
    have z2 : (2 ^ 63 - 1) / k < (a.length : Int) := z
    have z3 : (2 ^ 63 - 1 : Int) < a.length * k := (Int.ediv_lt_iff_lt_mul hk).mp z2
    have e : ((a.length * k.toNat : Nat) : Int) = (a.length : Int) * k := by rw [Int.natCast_mul, Int.toNat_of_nonneg (by omega)]
    rw [← e] at z3
    rw [sizeLine_eq] at h3
    omega
  · show decide (_ > sizeLine) = false
    exact decide_eq_false (by omega)
  · rw [mul_rep]
    exact ⟨.str _, H, I.tok _, ⟨_, rfl⟩, q⟩
theorem ok_mul : OpOk S (binaryOp .Mult) mulD := by
  intro σ env Z H F x y dx dy r I rx ry hr Q k
  cases rx with
  | int i =>
    cases ry with
    | int j =>
      simp only [mulD] at hr
      split at hr
      · rename_i hg
        rcases mulG_ok hg with hg | hg
        · exact wop_mk (fun X hX => op_mul) ⟨i, j, rfl, rfl, hg, k_fz I k (Option.some.inj hr).symm (.int _)⟩
        · exact wop_mk (fun X hX => op_mulW) ⟨i, j, rfl, rfl, hg, k_fz I k (Option.some.inj hr).symm (.int _)⟩
      · cases hr
    | _ => cases hr
  | lst h1 l1 r1 =>
    rename_i p1 vs1 ds1
    cases ry with
    | int j =>
      simp only [mulD] at hr
      split at hr
      · rename_i hl
        have e : r = .ol ((List.replicate j.toNat ds1).flatten.map .fz) := (Option.some.inj hr).symm
        have hv : vs1.length * j.toNat ≤ sizeLine := by rw [r1.length]; exact hl.2.2
        refine wop_mk (fun X hX => op_rep) ⟨p1, j, vs1, rfl, rfl, I.sub _ _ h1, by omega, by omega, hv, fun p hp => ?_⟩
        have rr : ∀ n : Nat, Rps Z (List.replicate n vs1).flatten (List.replicate n ds1).flatten := fun n => by
          induction n with
          | zero => exact .nil
          | succ n ih => rw [List.replicate_succ, List.replicate_succ, List.flatten_cons, List.flatten_cons]; exact r1.append ih
        obtain ⟨I', o', s'⟩ := I.newL hp (rr j.toNat) (by rw [len_rep, Nat.mul_comm]; exact hv)
        rw [e] at k
        exact k _ _ _ _ I' o' s'
      · cases hr
    | _ => cases hr
  | str a ha =>
    cases ry with
    | int j =>
      simp only [mulD] at hr
      split at hr
      · rename_i hl
        refine wop_mk (fun X hX => op_mul_str) ⟨a, j, rfl, rfl, ha.1, hl.1, hl.2.1, hl.2.2, k_fz I k (Option.some.inj hr).symm (.str _ (.of ?_ fun c hc => ha.mem c (mem_rep hc)))⟩
        rw [len_rep, Nat.mul_comm, Array.length_toList]
        exact hl.2.2
      · cases hr
    | _ => cases hr
  | _ => cases hr
theorem ok_fdiv : OpOk S (binaryOp .FloorDiv) fdivD := by
  intro σ env Z H F x y dx dy r I rx ry hr Q k
  cases rx with
  | int i =>
    cases ry with
    | int j =>
      simp only [fdivD] at hr
      split at hr
      · rename_i hl
        exact wop_mk (fun X hX => op_fdivW) ⟨i, j, rfl, rfl, hl, k_fz I k (Option.some.inj hr).symm (.int _)⟩
      · cases hr
    | _ => cases hr
  | _ => cases hr
theorem ok_mod : OpOk S (binaryOp .Mod) modD := by
  intro σ env Z H F x y dx dy r I rx ry hr Q k
  cases rx with
  | int i =>
    cases ry with
    | int j =>
      simp only [modD] at hr
      split at hr
      · rename_i hl
        exact wop_mk (fun X hX => op_mod) ⟨i, j, rfl, rfl, hl, k_fz I k (Option.some.inj hr).symm (.int _)⟩
      · cases hr
    | _ => cases hr
  | _ => cases hr
theorem ok_pow : OpOk S (binaryOp .Pow) powD := by
  intro σ env Z H F x y dx dy r I rx ry hr Q k
  cases rx with
  | int i =>
    cases ry with
    | int j =>
      simp only [powD] at hr
      split at hr
      · rename_i hl
        exact wop_mk (fun X hX => op_pow) ⟨i, j, rfl, rfl, hl, k_fz I k (Option.some.inj hr).symm (.int _)⟩
      · cases hr
    | _ => cases hr
  | _ => cases hr
theorem ok_bin (op : Operator) : OpOk S (binaryOp op) (binD op) := by
  cases op with
  | Add => exact ok_add
  | Sub => exact ok_sub
  | Mult => exact ok_mul
  | FloorDiv => exact ok_fdiv
  | Mod => exact ok_mod
  | Pow => exact ok_pow
  | _ => exact fun _ _ _ _ _ _ _ _ _ _ _ _ _ h => by cases h
/-- -a -/
def negD : PyData → Option OV
  | .int a => some (.fz (.int (-a)))
  | _ => none
theorem sv_neg (ha : SD S a ma) : SV S (.UnaryOp .USub a pos) (fun env => (ma env).bind fun da e1 => Rs.o (negD da) e1) := .of fun σ env Z H F I Q mm hm k kx kb => by
  refine ⟨tUn (rU fun i => .int (-i)) (wE S a), fun X hX => pe_un un_neg (pe_w hX), ?_⟩
  refine ha.go I hm kx kb fun da e1 va Z1 H1 F1 _ q1 I1 r1 s1 => ?_
  rw [q1] at kb
  obtain ⟨r, hr⟩ := ro_nb kb
  cases r1 with
  | int i =>
    refine ⟨i, rfl, k _ _ (by rw [q1, hr]; rfl) _ Z1 H1 F1 [] I1 ?_ s1⟩
    have e : r = .fz (.int (-i)) := (Option.some.inj hr).symm
    rw [e]; exact .fz (.int _)
  | _ => cases hr

/-! ### comparisons -/
def depG (a b : PyData) : Bool := decide (min a.depth b.depth ≤ 64)
def eqD (a b : PyData) : Option Bool := match a, b with
  | .dict _, _ => none
  | _, .dict _ => none
  | a, b => if depG a b = true then some (PyData.eqv a b) else none
def ltD : PyData → PyData → Option Bool
  | .int a, .int b => some (decide (a < b))
  | .str a, .str b => some (decide (a.cps.toList < b.cps.toList))
  | _, _ => none
def leD : PyData → PyData → Option Bool
  | .int a, .int b => some (decide (a ≤ b))
  | .str a, .str b => some (!decide (b.cps.toList < a.cps.toList))
  | _, _ => none
def gtD : PyData → PyData → Option Bool
  | .int a, .int b => some (decide (b < a))
  | .str a, .str b => some (decide (b.cps.toList < a.cps.toList))
  | _, _ => none
def geD : PyData → PyData → Option Bool
  | .int a, .int b => some (decide (b ≤ a))
  | .str a, .str b => some (!decide (a.cps.toList < b.cps.toList))
  | _, _ => none
def isD : PyData → PyData → Option Bool
  | .none, .none => some true
  | .bool _, .none => some false
  | .int _, .none => some false
  | .str _, .none => some false
  | .list _, .none => some false
  | .tuple _, .none => some false
  | .bool a, .bool b => some (decide (a = b))
  | _, _ => none
/-- is x in it: of a text (one sign), a list, a tuple -/
def inD : PyData → PyData → Option Bool
  | .str a, .str b => (match a.cps.toList with
    | [c] => some (decide (c ∈ b.cps.toList))
    | _ => some (!(Builtin.Str.occurrences b a 0 b.length 1).isEmpty))
  | x, .list ds => if min (PyData.depthAll ds) x.depth ≤ 64 then some (ds.any fun z => PyData.eqv z x) else none
  | x, .tuple ds => if min (PyData.depthAll ds) x.depth ≤ 64 then some (ds.any fun z => PyData.eqv z x) else none
  | _, _ => none
def cmpD (op : CmpOp) (a b : PyData) : Option Bool := match op with
  | .Eq => eqD a b
  | .NotEq => (eqD a b).map (!·)
  | .Lt => ltD a b
  | .LtE => leD a b
  | .Gt => gtD a b
  | .GtE => geD a b
  | .Is => isD a b
  | .IsNot => (isD a b).map (!·)
  | .In => inD a b
  | .NotIn => (inD a b).map (!·)
/-- a comparison of values keeps to g -/
def CmpOk (S : Ctx) (f : Value → Value → Sem Value) (g : PyData → PyData → Option Bool) : Prop := ∀ (H : Hp) (x y : V) (dx dy : PyData) (b : Bool), Rp H x dx → Rp H y dy → g dx dy = some b →
  ∀ Q : VK, Q (.bl b) H → wOp S f x y H Q
/-- == by the model's own reading, of data without dicts -/
def rEqP (K : PySem.W.Frag) : R2 := fun x y H Q => ∃ d e, Dp K H x d ∧ Dp K H y e ∧ d.canLay0 = true ∧ e.canLay0 = true ∧ min d.depth e.depth ≤ 64 ∧ Q (.bl (PyData.eqv d e)) H
theorem op_eqP {X : Cx} (hu : X.A.units + 64 < cLine) : OpR X (compareOp .Eq) (rEqP X.K) := by
  intro pins s σ H x y v u Q I rx ry h
  obtain ⟨d, e, hd, he, sd, se, hm, q⟩ := h
  obtain ⟨as, r1⟩ := Dp.reads I d x v hd rx
  obtain ⟨bs, r2⟩ := Dp.reads I e y u he ry
  exact SeqAt.compareEq_reads r1 r2 sd se (by omega) ⟨.bl _, H, I, rfl, q⟩
def rNeP (K : PySem.W.Frag) : R2 := fun x y H Q => ∃ d e, Dp K H x d ∧ Dp K H y e ∧ d.canLay0 = true ∧ e.canLay0 = true ∧ min d.depth e.depth ≤ 64 ∧ Q (.bl (!PyData.eqv d e)) H
theorem op_neP {X : Cx} (hu : X.A.units + 64 < cLine) : OpR X (compareOp .NotEq) (rNeP X.K) := by
  intro pins s σ H x y v u Q I rx ry h
  obtain ⟨d, e, hd, he, sd, se, hm, q⟩ := h
  obtain ⟨as, r1⟩ := Dp.reads I d x v hd rx
  obtain ⟨bs, r2⟩ := Dp.reads I e y u he ry
  exact SeqAt.compareNe_reads r1 r2 sd se (by omega) ⟨.bl _, H, I, rfl, q⟩
theorem hu_has {X : Cx} (h : S.has X) : X.A.units + 64 < cLine := h.room.units
theorem hu65 {X : Cx} (h : S.has X) : X.A.units + 66 < cLine := by have := h.room.un; omega
theorem eqD_some {a b : PyData} {r : Bool} (h : eqD a b = some r) : min a.depth b.depth ≤ 64 ∧ r = PyData.eqv a b := by
  have g : (if depG a b = true then some (PyData.eqv a b) else none) = some r := by
    cases a <;> first
      | (cases h; done)
      | (cases b <;> first | (cases h; done) | exact h)
  split at g
  · rename_i q
    exact ⟨of_decide_eq_true q, (Option.some.inj g).symm⟩
  · cases g
theorem ok_eq : CmpOk S (compareOp .Eq) eqD := fun H x y dx dy b rx ry h Q q => by
  obtain ⟨hm, e⟩ := eqD_some h
  exact wop_mk (R := rEqP S.K) (fun X hX => by rw [← hX.K]; exact op_eqP (hu_has hX)) ⟨dx, dy, rx.dp, ry.dp, rx.can, ry.can, hm, by rw [← e]; exact q⟩
theorem map_not {o : Option Bool} {b : Bool} (h : o.map (!·) = some b) : o = some (!b) := by
  cases o with
  | none => cases h
  | some c => cases h; simp
theorem ok_ne : CmpOk S (compareOp .NotEq) (fun a b => (eqD a b).map (!·)) := fun H x y dx dy b rx ry h Q q => by
  obtain ⟨hm, e⟩ := eqD_some (map_not h)
  exact wop_mk (R := rNeP S.K) (fun X hX => by rw [← hX.K]; exact op_neP (hu_has hX)) ⟨dx, dy, rx.dp, ry.dp, rx.can, ry.can, hm, by rw [← e]; simpa using q⟩
theorem ok_lt : CmpOk S (compareOp .Lt) ltD := fun H x y dx dy b rx ry h Q q => by
  cases rx with
  | int i => cases ry with
    | int j => cases h; exact wop_mk (fun X hX => op_lt) ⟨i, j, rfl, rfl, q⟩
    | _ => cases h
  | str i _ => cases ry with
    | str j _ => cases h; exact wop_mk (fun X hX => op_lt_str) ⟨i, j, rfl, rfl, q⟩
    | _ => cases h
  | _ => cases h
theorem ok_le : CmpOk S (compareOp .LtE) leD := fun H x y dx dy b rx ry h Q q => by
  cases rx with
  | int i => cases ry with
    | int j => cases h; exact wop_mk (fun X hX => op_le) ⟨i, j, rfl, rfl, q⟩
    | _ => cases h
  | str i _ => cases ry with
    | str j _ => cases h; exact wop_mk (fun X hX => op_le_str) ⟨i, j, rfl, rfl, q⟩
    | _ => cases h
  | _ => cases h
theorem ok_gt : CmpOk S (compareOp .Gt) gtD := fun H x y dx dy b rx ry h Q q => by
  cases rx with
  | int i => cases ry with
    | int j => cases h; exact wop_mk (fun X hX => op_gt) ⟨i, j, rfl, rfl, q⟩
    | _ => cases h
  | str i _ => cases ry with
    | str j _ => cases h; exact wop_mk (fun X hX => op_gt_str) ⟨i, j, rfl, rfl, q⟩
    | _ => cases h
  | _ => cases h
theorem ok_ge : CmpOk S (compareOp .GtE) geD := fun H x y dx dy b rx ry h Q q => by
  cases rx with
  | int i => cases ry with
    | int j => cases h; exact wop_mk (fun X hX => op_ge) ⟨i, j, rfl, rfl, q⟩
    | _ => cases h
  | str i _ => cases ry with
    | str j _ => cases h; exact wop_mk (fun X hX => op_ge_str) ⟨i, j, rfl, rfl, q⟩
    | _ => cases h
  | _ => cases h
theorem ok_is : CmpOk S (compareOp .Is) isD := fun H x y dx dy b rx ry h Q q => by
  cases ry with
  | non =>
    cases rx <;> first
      | (cases h; exact wop_mk (fun X hX => op_isN) ⟨rfl, by simpa using q⟩)
      | cases h
  | bl j => cases rx with
    | bl i => cases h; exact wop_mk (fun X hX => op_isBl) ⟨i, j, rfl, rfl, q⟩
    | _ => cases h
  | _ => cases rx <;> cases h
theorem ok_isnot : CmpOk S (compareOp .IsNot) (fun a b => (isD a b).map (!·)) := fun H x y dx dy b rx ry h Q q => by
  have h := map_not h
  have q : Q (.bl (!(!b))) H := by simpa using q
  generalize (!b) = b' at h q
  cases ry with
  | non =>
    cases rx <;> first
      | (cases h; exact wop_mk (fun X hX => op_notN) ⟨rfl, by simpa using q⟩)
      | cases h
  | bl j => cases rx with
    | bl i => cases h; exact wop_mk (fun X hX => op_notBl) ⟨i, j, rfl, rfl, q⟩
    | _ => cases h
  | _ => cases rx <;> cases h
def rInP (K : PySem.W.Frag) (neg : Bool) : R2 := fun x y H Q => ∃ d ds, Dp K H x d ∧ (Dp K H y (.list ds) ∨ Dp K H y (.tuple ds)) ∧ d.canLay0 = true ∧ PyData.canLayAll0 ds = true ∧ min (PyData.depthAll ds) d.depth ≤ 64 ∧
  Q (.bl (if neg = true then !ds.any fun z => PyData.eqv z d else ds.any fun z => PyData.eqv z d)) H
theorem op_inP {X : Cx} (hu : X.A.units + 66 < cLine) : OpR X (compareOp .In) (rInP X.K false) := by
  intro pins s σ H x y v u Q I rx ry h
  obtain ⟨d, ds, hd, he, sd, se, hm, q⟩ := h
  obtain ⟨as, r1⟩ := Dp.reads I d x v hd rx
  rcases he with he | he
  · obtain ⟨bs, r2⟩ := Dp.reads I (.list ds) y u he ry
    exact SeqAt.in_list_reads r2 r1 se sd (by omega) ⟨.bl _, H, I, rfl, q⟩
  · obtain ⟨bs, r2⟩ := Dp.reads I (.tuple ds) y u he ry
    exact SeqAt.in_tuple_reads r2 r1 se sd (by omega) ⟨.bl _, H, I, rfl, q⟩
theorem op_notInP {X : Cx} (hu : X.A.units + 66 < cLine) : OpR X (compareOp .NotIn) (rInP X.K true) := by
  intro pins s σ H x y v u Q I rx ry h
  obtain ⟨d, ds, hd, he, sd, se, hm, q⟩ := h
  obtain ⟨as, r1⟩ := Dp.reads I d x v hd rx
  rcases he with he | he
  · obtain ⟨bs, r2⟩ := Dp.reads I (.list ds) y u he ry
    exact SeqAt.notIn_list_reads r2 r1 se sd (by omega) ⟨.bl _, H, I, rfl, q⟩
  · obtain ⟨bs, r2⟩ := Dp.reads I (.tuple ds) y u he ry
    exact SeqAt.notIn_tuple_reads r2 r1 se sd (by omega) ⟨.bl _, H, I, rfl, q⟩
theorem inD_cases {dx dy : PyData} {b : Bool} (h : inD dx dy = some b) : (∃ (c : Nat) (z : Str), dx = .str ⟨#[c]⟩ ∧ dy = .str z ∧ b = decide (c ∈ z.cps.toList)) ∨ (∃ i j : Str, dx = .str i ∧ dy = .str j ∧ b = !(Builtin.Str.occurrences j i 0 j.length 1).isEmpty) ∨
    ∃ ds, (dy = .list ds ∨ dy = .tuple ds) ∧ min (PyData.depthAll ds) dx.depth ≤ 64 ∧ b = ds.any fun z => PyData.eqv z dx := by
  have lt : ∀ ds : List PyData, (if min (PyData.depthAll ds) dx.depth ≤ 64 then some (ds.any fun z => PyData.eqv z dx) else none) = some b → min (PyData.depthAll ds) dx.depth ≤ 64 ∧ b = ds.any fun z => PyData.eqv z dx := fun ds g => by
    split at g
    · rename_i z
      exact ⟨z, (Option.some.inj g).symm⟩
    · cases g
  cases dy with
  | list ds => exact .inr (.inr ⟨ds, .inl rfl, lt ds (by cases dx <;> exact h)⟩)
  | tuple ds => exact .inr (.inr ⟨ds, .inr rfl, lt ds (by cases dx <;> exact h)⟩)
  | str j =>
    cases dx with
    | str i =>
      obtain ⟨⟨l⟩⟩ := i
      match l, h with
      | [c], h => exact .inl ⟨c, j, rfl, rfl, (Option.some.inj h).symm⟩
      | [], h => exact .inr (.inl ⟨_, j, rfl, rfl, (Option.some.inj h).symm⟩)
      | _ :: _ :: _, h => exact .inr (.inl ⟨_, j, rfl, rfl, (Option.some.inj h).symm⟩)
    | _ => cases h
  | _ => cases dx <;> cases h
theorem ok_in : CmpOk S (compareOp .In) inD := fun H x y dx dy b rx ry h Q q => by
  rcases inD_cases h with ⟨c, z, rfl, rfl, rfl⟩ | ⟨i, j, rfl, rfl, rfl⟩ | ⟨ds, e, hm, rfl⟩
  · cases rx; cases ry
    exact wop_mk (fun X hX => op_in_sign) ⟨c, z, rfl, rfl, q⟩
  · cases rx; cases ry
    exact wop_mk (fun X hX => op_in_str) ⟨i, j, rfl, rfl, q⟩
  · refine wop_mk (R := rInP S.K false) (fun X hX => by rw [← hX.K]; exact op_inP (hu65 hX)) ⟨dx, ds, rx.dp, ?_, rx.can, ?_, hm, q⟩
    · rcases e with rfl | rfl
      · exact .inl ry.dp
      · exact .inr ry.dp
    · rcases e with rfl | rfl <;> exact ry.can
theorem ok_notin : CmpOk S (compareOp .NotIn) (fun a b => (inD a b).map (!·)) := fun H x y dx dy b rx ry h Q q => by
  have h := map_not h
  have q : Q (.bl (!(!b))) H := by simpa using q
  generalize (!b) = b' at h q
  rcases inD_cases h with ⟨c, z, rfl, rfl, rfl⟩ | ⟨i, j, rfl, rfl, rfl⟩ | ⟨ds, e, hm, rfl⟩
  · cases rx; cases ry
    exact wop_mk (fun X hX => op_notIn_sign) ⟨c, z, rfl, rfl, q⟩
  · cases rx; cases ry
    exact wop_mk (fun X hX => op_notin_str) ⟨i, j, rfl, rfl, q⟩
  · refine wop_mk (R := rInP S.K true) (fun X hX => by rw [← hX.K]; exact op_notInP (hu65 hX)) ⟨dx, ds, rx.dp, ?_, rx.can, ?_, hm, q⟩
    · rcases e with rfl | rfl
      · exact .inl ry.dp
      · exact .inr ry.dp
    · rcases e with rfl | rfl <;> exact ry.can
theorem ok_cmp (op : CmpOp) : CmpOk S (compareOp op) (cmpD op) := by
  cases op with
  | Eq => exact ok_eq
  | NotEq => exact ok_ne
  | Lt => exact ok_lt
  | LtE => exact ok_le
  | Gt => exact ok_gt
  | GtE => exact ok_ge
  | Is => exact ok_is
  | IsNot => exact ok_isnot
  | In => exact ok_in
  | NotIn => exact ok_notin
/-- a op b, as a truth value -/
def cmp2 (ma mb : M PyData) (g : PyData → PyData → Option Bool) : M Bool := fun env => (ma env).bind fun da e1 => (mb e1).bind fun db e2 => match g da db with
  | some r => .ok r e2
  | none => .bad
theorem notSet {e : Expr} {op : CmpOp} (h : ∀ es k p, e ≠ .Set es k p) : behindInMarks op e = false := by
  cases e <;> first | rfl | exact absurd rfl (h _ _ _)
theorem cmp_core {op : CmpOp} {β : Type} {α : Type} {mm : Rs β} {kk : Bool → Env → Rs β} (ha : SD S a ma) (hb : SD S b mb) {σ : St} {env : Env} {Z H : Hp} {F : Fp} (I : SI S.K Z H σ env F) (hm : mm = (cmp2 ma mb (cmpD op) env).bind kk) (kx : KX S σ Z H F mm) (kb : mm ≠ .bad) {Q : VK}
    (k : ∀ r env' Z' H' F', mm = kk r env' → SI S.K Z' H' σ env' F' → Stp Z H F Z' H' F' [] → Q (.bl r) H') : tOp (wOp S (compareOp op)) (wE S a) (wE S b) σ H Q := by
  have hm1 : mm = (ma env).bind fun da e1 => ((mb e1).bind fun db e2 => match cmpD op da db with | some r => Rs.ok r e2 | none => .bad).bind kk := by
    rw [hm]; unfold cmp2; cases ma env <;> rfl
  refine ha.go I hm1 kx kb fun da e1 va Z1 H1 F1 _ q1 I1 r1 s1 => ?_
  have hm2 : mm = (mb e1).bind fun db e2 => (match cmpD op da db with | some r => Rs.ok r e2 | none => .bad).bind kk := by
    rw [q1]; cases mb e1 <;> rfl
  refine hb.go I1 hm2 (kx.step s1) kb fun db e2 vb Z2 H2 F2 _ q2 I2 r2 s2 => ?_
  cases hr : cmpD op da db with
  | none => rw [hr] at q2; exact absurd q2 kb
  | some r =>
    rw [hr] at q2
    exact ok_cmp op H2 va vb da db r (I2.at (r1.mono s2.zz)) (I2.at r2) hr Q (k r e2 Z2 H2 F2 q2 I2 (s1.trans0 s2))
theorem sd_cmp {op : CmpOp} (ha : SD S a ma) (hb : SD S b mb) (hs : ∀ es k p, b ≠ .Set es k p) : SD S (.Compare a [op] [b] pos) (fun env => (cmp2 ma mb (cmpD op) env).bind fun r e => .ok (.bool r) e) := .of fun σ env Z H F I Q mm hm k kx kb => by
  refine ⟨tOp (wOp S (compareOp op)) (wE S a) (wE S b), fun X hX => pe_cmpR (op_w hX) (pe_w hX) (pe_w hX) (notSet hs), ?_⟩
  exact cmp_core (α := Unit) ha hb I hm kx kb fun r env' Z' H' F' q I' s' => k _ _ q _ Z' H' F' I' (.bl r) s'
theorem sb_cmp {op : CmpOp} (ha : SD S a ma) (hb : SD S b mb) (hs : ∀ es k p, b ≠ .Set es k p) : SB S (.Compare a [op] [b] pos) (cmp2 ma mb (cmpD op)) := .of fun σ env Z H F I Q mm hm k kx kb => by
  refine ⟨tTest (tOp (wOp S (compareOp op)) (wE S a) (wE S b)), fun X hX => pt_cmpR (op_w hX) (pe_w hX) (pe_w hX) (notSet hs), ?_⟩
  have hm2 : mm = (cmp2 ma mb (cmpD op) env).bind fun r e => .ok r e := by rw [hm]; cases cmp2 ma mb (cmpD op) env <;> rfl
  exact cmp_core (α := Unit) ha hb I hm2 kx kb fun r env' Z' H' F' q I' s' => ⟨r, rfl, k _ _ q Z' H' F' I' s'⟩
end
end Vi

set_option Elab.async false
set_option linter.all false
set_option maxRecDepth 100000
namespace Vi
open PySem L2
section
variable {S : Ctx} {a b c e : Expr} {es : List Expr} {ma mb mc : M PyData} {ta tb tc : M Bool} {g : PyData → PyData → Option OV} {pos : Pos} {rest : List Expr}

/-! ### truth -/
def truthD : PyData → Option Bool
  | .none => some false
  | .bool b => some b
  | .int i => some (i != 0)
  | .str x => some ((x.length : Int) != 0)
  | .list xs => some (!xs.isEmpty)
  | .tuple xs => some (!xs.isEmpty)
  | .dict _ => none
def Rs.tst (m : Rs PyData) : Rs Bool := m.bind fun d e => match truthD d with
  | some r => .ok r e
  | none => .bad
def plainT : Expr → Bool
  | .UnaryOp .Not _ _ => false
  | .BoolOp _ _ _ => false
  | .IfExp _ _ _ _ => false
  | .Compare _ _ _ _ => false
  | _ => true
theorem plainT_eq {env : PySem.Env} (h : plainT e = true) : ∀ whole, isTrue e env whole = (do let v ← whole; standAt e.pos; holding [v] (truthy v)) := fun whole => by
  cases e with
  | UnaryOp op _ _ => cases op <;> first | rfl | (cases h; done)
  | BoolOp _ _ _ => cases h
  | IfExp _ _ _ _ => cases h
  | Compare _ _ _ _ => cases h
  | _ => rfl
theorem Rps.empty {H : Hp} {vs : List V} {ds : List PyData} (r : Rps H vs ds) : vs.isEmpty = ds.isEmpty := by cases r <;> rfl
theorem Rp.tru {K : PySem.W.Frag} {H : Hp} {v : V} {d : PyData} {k : Bool} (r : Rp H v d) (h : truthD d = some k) : TruV K v H k := by
  cases r with
  | non => cases h; rfl
  | bl b => cases h; rfl
  | int i => cases h; rfl
  | str x hx => cases h; exact ⟨hx.1, rfl⟩
  | lst h1 l r => cases h; exact .inl ⟨_, .inl (.inl h1), by rw [r.empty]⟩
  | tup h1 l r => cases h; exact .inr (.inl ⟨_, .inl (.inl h1), by rw [r.empty]⟩)
/-- a value as a test -/
theorem SD.tst (ha : SD S a ma) (h : plainT a = true) : SB S a (fun env => (ma env).tst) := .of fun σ env Z H F I Q mm hm k kx kb => by
  refine ⟨fun σ H Q => wE S a σ H fun x H' => ∃ k, TruV S.K x H' k ∧ Q k H', fun X hX => by rw [← hX.K]; exact pt_truth (pe_w hX) (plainT_eq h), ?_⟩
  refine ha.go I hm kx kb fun da e1 va Z1 H1 F1 _ q1 I1 r1 s1 => ?_
  cases q : truthD da with
  | none => rw [q] at q1; exact absurd q1 kb
  | some t => rw [q] at q1; exact ⟨t, (I1.at r1).tru q, k _ _ q1 Z1 H1 F1 I1 s1⟩
/-! ### and, or, not as tests -/
theorem SW.sb {t : M Bool} (h : SW S e t) : SB S e t := .of fun σ env Z H F I Q mm hm k kx kb =>
  ⟨wW S e, fun X hX => (pw_w hX).pt, h σ env Z H F I Q (fun b e1 q => k b e1 (hm.trans q)) (by rw [← hm]; exact kx) (by rw [← hm]; exact kb)⟩
theorem sw_and1 (h : SB S a ta) : SW S (.BoolOp .And [a] pos) ta := fun σ env Z H F I Q k kx kb =>
  ⟨wT S a, fun X hX => pw_and1 (pt_w hX), h σ env Z H F I Q k kx kb⟩
theorem sw_or1 (h : SB S a ta) : SW S (.BoolOp .Or [a] pos) ta := fun σ env Z H F I Q k kx kb =>
  ⟨wT S a, fun X hX => pw_or1 (pt_w hX), h σ env Z H F I Q k kx kb⟩
def andT (ta tb : M Bool) : M Bool := fun env => (ta env).bind fun r e1 => if r = true then tb e1 else .ok false e1
def orT (ta tb : M Bool) : M Bool := fun env => (ta env).bind fun r e1 => if r = true then .ok true e1 else tb e1
theorem Rs.bind_id {mm : Rs Bool} : mm.bind (fun r e => .ok r e) = mm := by cases mm <;> rfl
theorem sw_and (ha : SB S a ta) (hb : SW S (.BoolOp .And (b :: rest) pos) tb) : SW S (.BoolOp .And (a :: b :: rest) pos) (andT ta tb) := .of fun σ env Z H F I Q mm hm k kx kb => by
  refine ⟨tAnd (wT S a) (wW S (.BoolOp .And (b :: rest) pos)), fun X hX => pw_and (pt_w hX) (pw_w hX), ?_⟩
  refine ha.go I hm kx kb fun r e1 Z1 H1 F1 _ q1 I1 s1 => ?_
  cases r with
  | true =>
    rw [if_pos rfl] at q1
    exact iteT (hb.go I1 (q1.trans Rs.bind_id.symm) (kx.step s1) kb fun r2 e2 Z2 H2 F2 _ q2 I2 s2 => k _ _ q2 Z2 H2 F2 I2 (s1.trans0 s2))
  | false =>
    rw [if_neg Bool.false_ne_true] at q1
    exact iteF (k _ _ q1 Z1 H1 F1 I1 s1)
theorem sw_or (ha : SB S a ta) (hb : SW S (.BoolOp .Or (b :: rest) pos) tb) : SW S (.BoolOp .Or (a :: b :: rest) pos) (orT ta tb) := .of fun σ env Z H F I Q mm hm k kx kb => by
  refine ⟨tOr (wT S a) (wW S (.BoolOp .Or (b :: rest) pos)), fun X hX => pw_or (pt_w hX) (pw_w hX), ?_⟩
  refine ha.go I hm kx kb fun r e1 Z1 H1 F1 _ q1 I1 s1 => ?_
  cases r with
  | true =>
    rw [if_pos rfl] at q1
    exact iteT (k _ _ q1 Z1 H1 F1 I1 s1)
  | false =>
    rw [if_neg Bool.false_ne_true] at q1
    exact iteF (hb.go I1 (q1.trans Rs.bind_id.symm) (kx.step s1) kb fun r2 e2 Z2 H2 F2 _ q2 I2 s2 => k _ _ q2 Z2 H2 F2 I2 (s1.trans0 s2))
def notT (ta : M Bool) : M Bool := fun env => (ta env).bind fun r e1 => .ok (!r) e1
theorem sb_not (ha : SB S a ta) : SB S (.UnaryOp .Not a pos) (notT ta) := .of fun σ env Z H F I Q mm hm k kx kb => by
  refine ⟨tNot (wT S a), fun X hX => pt_not (pt_w hX), ?_⟩
  exact ha.go I hm kx kb fun r e1 Z1 H1 F1 _ q1 I1 s1 => k _ _ q1 Z1 H1 F1 I1 s1
/-! ### .. as values -/
def isB : PyData → Option Bool
  | .bool b => some b
  | _ => none
def andV (ma mb : M PyData) : M PyData := fun env => (ma env).bind fun d e1 => match isB d with
  | some true => mb e1
  | some false => .ok (.bool false) e1
  | none => .bad
def orV (ma mb : M PyData) : M PyData := fun env => (ma env).bind fun d e1 => match isB d with
  | some true => .ok (.bool true) e1
  | some false => mb e1
  | none => .bad
theorem Rs.bind_idD {mm : Rs PyData} : mm.bind (fun r e => .ok r e) = mm := by cases mm <;> rfl
theorem isB_some {d : PyData} {r : Bool} (h : isB d = some r) : d = .bool r := by
  cases d <;> first | (cases h; rfl) | cases h
theorem isB_nb {α : Type} {d : PyData} {x y : Rs α} {mm : Rs α} (h : mm = (match isB d with | some true => x | some false => y | none => .bad)) (kb : mm ≠ .bad) : ∃ r, d = .bool r := by
  cases q : isB d with
  | none => rw [q] at h; exact absurd h kb
  | some r => exact ⟨r, isB_some q⟩
theorem sd_one {op : BoolOp} (h : SD S a ma) : SD S (.BoolOp op [a] pos) ma := fun σ env Z H F I Q k kx kb => ⟨wE S a, fun X hX => pe_one (pe_w hX), h σ env Z H F I Q k kx kb⟩
theorem sd_and (ha : SD S a ma) (hb : SD S (.BoolOp .And (b :: rest) pos) mb) : SD S (.BoolOp .And (a :: b :: rest) pos) (andV ma mb) := .of fun σ env Z H F I Q mm hm k kx kb => by
  refine ⟨tAndV (wE S a) (wE S (.BoolOp .And (b :: rest) pos)), fun X hX => pe_and (pe_w hX) (pe_w hX), ?_⟩
  refine ha.go I hm kx kb fun d e1 va Z1 H1 F1 _ q1 I1 r1 s1 => ?_
  obtain ⟨r, rfl⟩ := isB_nb q1 kb
  cases r1
  refine ⟨r, rfl, ?_⟩
  cases r with
  | true => exact iteT (hb.go I1 (q1.trans Rs.bind_idD.symm) (kx.step s1) kb fun d2 e2 v2 Z2 H2 F2 _ q2 I2 r2 s2 => k _ _ q2 v2 Z2 H2 F2 I2 r2 (s1.trans0 s2))
  | false => exact iteF (k _ _ q1 _ Z1 H1 F1 I1 (.bl false) s1)
theorem sd_or (ha : SD S a ma) (hb : SD S (.BoolOp .Or (b :: rest) pos) mb) : SD S (.BoolOp .Or (a :: b :: rest) pos) (orV ma mb) := .of fun σ env Z H F I Q mm hm k kx kb => by
  refine ⟨tOrV (wE S a) (wE S (.BoolOp .Or (b :: rest) pos)), fun X hX => pe_or (pe_w hX) (pe_w hX), ?_⟩
  refine ha.go I hm kx kb fun d e1 va Z1 H1 F1 _ q1 I1 r1 s1 => ?_
  obtain ⟨r, rfl⟩ := isB_nb q1 kb
  cases r1
  refine ⟨r, rfl, ?_⟩
  cases r with
  | true => exact iteT (k _ _ q1 _ Z1 H1 F1 I1 (.bl true) s1)
  | false => exact iteF (hb.go I1 (q1.trans Rs.bind_idD.symm) (kx.step s1) kb fun d2 e2 v2 Z2 H2 F2 _ q2 I2 r2 s2 => k _ _ q2 v2 Z2 H2 F2 I2 r2 (s1.trans0 s2))
def notV (ma : M PyData) : M PyData := fun env => (ma env).bind fun d e1 => match isB d with
  | some true => .ok (.bool false) e1
  | some false => .ok (.bool true) e1
  | none => .bad
theorem sd_not (ha : SD S a ma) : SD S (.UnaryOp .Not a pos) (notV ma) := .of fun σ env Z H F I Q mm hm k kx kb => by
  refine ⟨tNotV (wE S a), fun X hX => pe_not (pe_w hX), ?_⟩
  refine ha.go I hm kx kb fun d e1 va Z1 H1 F1 _ q1 I1 r1 s1 => ?_
  obtain ⟨r, rfl⟩ := isB_nb q1 kb
  cases r1
  refine ⟨r, rfl, ?_⟩
  cases r with
  | true => exact k _ _ q1 _ Z1 H1 F1 I1 (.bl false) s1
  | false => exact k _ _ q1 _ Z1 H1 F1 I1 (.bl true) s1
/-! ### a if t else b -/
def iteV (tc : M Bool) (ma mb : M OV) : M OV := fun env => (tc env).bind fun r e1 => if r = true then ma e1 else mb e1
theorem Rs.bind_idO {mm : Rs OV} : mm.bind (fun r e => .ok r e) = mm := by cases mm <;> rfl
theorem sv_ite {ma mb : M OV} (hc : SB S c tc) (ha : SV S a ma) (hb : SV S b mb) : SV S (.IfExp c a b pos) (iteV tc ma mb) := .of fun σ env Z H F I Q mm hm k kx kb => by
  refine ⟨tIf (wT S c) (wE S a) (wE S b), fun X hX => pe_ifExp (pt_w hX) (pe_w hX) (pe_w hX), ?_⟩
  refine hc.go I hm kx kb fun r e1 Z1 H1 F1 _ q1 I1 s1 => ?_
  cases r with
  | true =>
    rw [if_pos rfl] at q1
    exact iteT (ha.go I1 (q1.trans Rs.bind_idO.symm) (kx.step s1) kb fun d2 e2 v2 Z2 H2 F2 G _ q2 I2 r2 s2 => k _ _ q2 v2 Z2 H2 F2 G I2 r2 (s1.trans0 s2))
  | false =>
    rw [if_neg Bool.false_ne_true] at q1
    exact iteF (hb.go I1 (q1.trans Rs.bind_idO.symm) (kx.step s1) kb fun d2 e2 v2 Z2 H2 F2 G _ q2 I2 r2 s2 => k _ _ q2 v2 Z2 H2 F2 G I2 r2 (s1.trans0 s2))
/-! ### a < b < c -/
def chain2 (ma mb mc : M PyData) (g h : PyData → PyData → Option Bool) : M Bool := fun env => (ma env).bind fun da e1 => (mb e1).bind fun db e2 => match g da db with
  | some true => (mc e2).bind fun dc e3 => (match h db dc with
    | some r => .ok r e3
    | none => .bad)
  | some false => .ok false e2
  | none => .bad
theorem chain_core {op op' : CmpOp} {β : Type} {mm : Rs β} {kk : Bool → Env → Rs β} (ha : SD S a ma) (hb : SD S b mb) (hc : SD S c mc) {σ : St} {env : Env} {Z H : Hp} {F : Fp} (I : SI S.K Z H σ env F) (hm : mm = (chain2 ma mb mc (cmpD op) (cmpD op') env).bind kk) (kx : KX S σ Z H F mm) (kb : mm ≠ .bad) {Q : VK}
    (k : ∀ r env' Z' H' F', mm = kk r env' → SI S.K Z' H' σ env' F' → Stp Z H F Z' H' F' [] → Q (.bl r) H') : tChain (wOp S (compareOp op)) (wOp S (compareOp op')) (wE S a) (wE S b) (wE S c) σ H Q := by
  have hm1 : mm = (ma env).bind fun da e1 => ((mb e1).bind fun db e2 => match cmpD op da db with
      | some true => (mc e2).bind fun dc e3 => (match cmpD op' db dc with | some r => Rs.ok r e3 | none => .bad)
      | some false => .ok false e2
      | none => .bad).bind kk := by
    rw [hm]; unfold chain2; cases ma env <;> rfl
  refine ha.go I hm1 kx kb fun da e1 va Z1 H1 F1 _ q1 I1 r1 s1 => ?_
  have hm2 : mm = (mb e1).bind fun db e2 => (match cmpD op da db with
      | some true => (mc e2).bind fun dc e3 => (match cmpD op' db dc with | some r => Rs.ok r e3 | none => .bad)
      | some false => .ok false e2
      | none => .bad).bind kk := by
    rw [q1]; cases mb e1 <;> rfl
  refine hb.go I1 hm2 (kx.step s1) kb fun db e2 vb Z2 H2 F2 _ q2 I2 r2 s2 => ?_
  cases hr : cmpD op da db with
  | none => rw [hr] at q2; exact absurd q2 kb
  | some r =>
    rw [hr] at q2
    refine ok_cmp op H2 va vb da db r (I2.at (r1.mono s2.zz)) (I2.at r2) hr _ ⟨r, rfl, ?_⟩
    cases r with
    | false => exact iteF (k false e2 Z2 H2 F2 q2 I2 (s1.trans0 s2))
    | true =>
      refine iteT ?_
      have hm3 : mm = (mc e2).bind fun dc e3 => (match cmpD op' db dc with | some r => Rs.ok r e3 | none => .bad).bind kk := by
        rw [q2]; show ((mc e2).bind _).bind kk = _; cases mc e2 <;> rfl
      refine hc.go I2 hm3 ((kx.step s1).step s2) kb fun dc e3 vc Z3 H3 F3 _ q3 I3 r3 s3 => ?_
      cases hr3 : cmpD op' db dc with
      | none => rw [hr3] at q3; exact absurd q3 kb
      | some r' =>
        rw [hr3] at q3
        exact ok_cmp op' H3 vb vc db dc r' (I3.at (r2.mono s3.zz)) (I3.at r3) hr3 Q (k r' e3 Z3 H3 F3 q3 I3 ((s1.trans0 s2).trans0 s3))
theorem lastM {op op' : CmpOp} (hs : ∀ es k p, c ≠ .Set es k p) : lastMarks [op, op'] [b, c] = false := by
  show lastMarks [op'] [c] = false
  exact notSet hs
theorem sd_chain {op op' : CmpOp} (ha : SD S a ma) (hb : SD S b mb) (hc : SD S c mc) (hs : ∀ es k p, c ≠ .Set es k p) : SD S (.Compare a [op, op'] [b, c] pos) (fun env => (chain2 ma mb mc (cmpD op) (cmpD op') env).bind fun r e => .ok (.bool r) e) := .of fun σ env Z H F I Q mm hm k kx kb => by
  refine ⟨tChain (wOp S (compareOp op)) (wOp S (compareOp op')) (wE S a) (wE S b) (wE S c), fun X hX => pe_chain (op_w hX) (op_w hX) (pe_w hX) (pe_w hX) (pe_w hX) (lastM hs), ?_⟩
  exact chain_core ha hb hc I hm kx kb fun r env' Z' H' F' q I' s' => k _ _ q _ Z' H' F' I' (.bl r) s'
theorem sb_chain {op op' : CmpOp} (ha : SD S a ma) (hb : SD S b mb) (hc : SD S c mc) (hs : ∀ es k p, c ≠ .Set es k p) : SB S (.Compare a [op, op'] [b, c] pos) (chain2 ma mb mc (cmpD op) (cmpD op')) := .of fun σ env Z H F I Q mm hm k kx kb => by
  refine ⟨tTest (tChain (wOp S (compareOp op)) (wOp S (compareOp op')) (wE S a) (wE S b) (wE S c)), fun X hX => pt_chain (op_w hX) (op_w hX) (pe_w hX) (pe_w hX) (pe_w hX) (lastM hs), ?_⟩
  exact chain_core ha hb hc I (hm.trans Rs.bind_id.symm) kx kb fun r env' Z' H' F' q I' s' => ⟨r, rfl, k _ _ q Z' H' F' I' s'⟩

/-! ### argument lists, displays -/
def notStar : Expr → Bool
  | .Starred _ _ => false
  | _ => true
theorem star_cons {env : PySem.Env} (h : notStar e = true) : starEach (e :: es) env = (false, PySem.eval e env) :: starEach es env := by
  cases e <;> first | rfl | cases h
theorem sl_nil : SL S [] (fun env => .ok [] env) := fun σ env Z H F I Q k _ _ => ⟨tNil, fun X hX => pa_nil, k _ _ rfl [] Z H F I .nil .refl⟩
def consL (ma : M PyData) (ml : M (List PyData)) : M (List PyData) := fun env => (ma env).bind fun d e1 => (ml e1).bind fun ds e2 => .ok (d :: ds) e2
theorem sl_cons {ml : M (List PyData)} (ha : SD S a ma) (hl : SL S es ml) (hn : notStar a = true) : SL S (a :: es) (consL ma ml) := .of fun σ env Z H F I Q mm hm k kx kb => by
  refine ⟨tCons (wE S a) (wA S es), fun X hX => pa_cons (pe_w hX) (pa_w hX) (star_cons hn), ?_⟩
  refine ha.go I hm kx kb fun d e1 va Z1 H1 F1 _ q1 I1 r1 s1 => ?_
  refine hl.go I1 q1 (kx.step s1) kb fun ds e2 vs Z2 H2 F2 _ q2 I2 r2 s2 => ?_
  exact k _ _ q2 _ Z2 H2 F2 I2 (.cons (r1.mono s2.zz) r2) (s1.trans0 s2)
theorem so_nil : SO S [] (fun env => .ok [] env) := fun σ env Z H F I Q k _ _ => ⟨tNil, fun X hX => pa_nil, k _ _ rfl [] Z H F [] I .nil .refl⟩
def consO (ma : M OV) (ml : M (List OV)) : M (List OV) := fun env => (ma env).bind fun d e1 => (ml e1).bind fun ds e2 => .ok (d :: ds) e2
theorem so_cons {ma : M OV} {ml : M (List OV)} (ha : SV S a ma) (hl : SO S es ml) (hn : notStar a = true) : SO S (a :: es) (consO ma ml) := .of fun σ env Z H F I Q mm hm k kx kb => by
  refine ⟨tCons (wE S a) (wA S es), fun X hX => pa_cons (pe_w hX) (pa_w hX) (star_cons hn), ?_⟩
  refine ha.go I hm kx kb fun d e1 va Z1 H1 F1 G1 _ q1 I1 r1 s1 => ?_
  refine hl.go I1 q1 (kx.step s1.drop) kb fun ds e2 vs Z2 H2 F2 G2 _ q2 I2 r2 s2 => ?_
  have r1' := s2.keep r1 s1.gd
  have dj : ∀ b, b ∈ G1 → b ∉ G2 := fun b hb hc => by
    rcases s2.gr b (.inl hc) with ⟨i, z⟩ | z
    · exact s1.gd i b hb z
    · exact (r1.nn b hb).2 z
  exact k _ _ q2 _ Z2 H2 F2 _ I2 (.cons r1' r2 dj) (s1.trans s2 fun b hb => (r1.nn b hb).2)
/-- (a, b, ..) -/
def tupM (ml : M (List PyData)) : M PyData := fun env => (ml env).bind fun ds e1 => if ds.length ≤ sizeLine then .ok (.tuple ds) e1 else .bad
theorem sd_tup {ml : M (List PyData)} {x1 : Nat} (hl : SL S es ml) : SD S (.Tuple es x1 pos) (tupM ml) := .of fun σ env Z H F I Q mm hm k kx kb => by
  refine ⟨tTup (wA S es), fun X hX => pe_tup (pa_w hX), ?_⟩
  refine hl.go I hm kx kb fun ds e1 vs Z1 H1 F1 _ q1 I1 r1 s1 => ?_
  by_cases hz : ds.length ≤ sizeLine
  · rw [if_pos hz] at q1
    have hv : vs.length ≤ sizeLine := by rw [r1.length]; exact hz
    refine ⟨hv, fun p hp => ?_⟩
    obtain ⟨I', o', s'⟩ := I1.newT hp r1 hv
    exact k _ _ q1 _ _ _ F1 I' o' (s1.trans0 s')
  · rw [if_neg hz] at q1
    exact absurd q1 kb
/-- [a, b, ..] -/
def lstM (ml : M (List OV)) : M OV := fun env => (ml env).bind fun ds e1 => if ds.length ≤ sizeLine then .ok (.ol ds) e1 else .bad
theorem sv_lst {ml : M (List OV)} (hl : SO S es ml) : SV S (.List es pos) (lstM ml) := .of fun σ env Z H F I Q mm hm k kx kb => by
  refine ⟨tLst (wA S es), fun X hX => pe_lst (pa_w hX), ?_⟩
  refine hl.go I hm kx kb fun ds e1 vs Z1 H1 F1 G1 _ q1 I1 r1 s1 => ?_
  by_cases hz : ds.length ≤ sizeLine
  · rw [if_pos hz] at q1
    have hv : vs.length ≤ sizeLine := by rw [r1.length]; exact hz
    refine ⟨hv, fun p hp => ?_⟩
    obtain ⟨s', I', hzp⟩ := I1.freshO (o := .lst vs) hp
    have np : p ∉ G1 := fun z => (r1.nn p z).2 hp
    have r1' := s'.keeps r1 s1.gd
    refine k _ _ q1 _ _ _ F1 (p :: G1) I' (.ol hzp upd_same hv r1' np) ?_
    refine (s1.trans s' fun b hb => (r1.nn b hb).2).less fun b hb => ?_
    rcases List.mem_cons.mp hb with z | z
    · exact List.mem_append_right _ (by rw [z]; exact List.mem_cons_self)
    · exact List.mem_append_left _ z
  · rw [if_neg hz] at q1
    exact absurd q1 kb

/-! ### subscripts -/
def ixD : PyData → PyData → Option PyData
  | .list xs, .int i => atI xs i
  | .tuple xs, .int i => atI xs i
  | .str x, .int i => (atI x.cps.toList i).map fun c => .str ⟨#[c]⟩
  | _, _ => none
theorem atI_rps {H : Hp} {vs : List V} {ds : List PyData} {i : Int} {d : PyData} (r : Rps H vs ds) (h : atI ds i = some d) : ∃ v, atI vs i = some v ∧ Rp H v d := by
  unfold atI at h ⊢
  rw [r.length]
  cases q : ixN ds.length i with
  | none => rw [q] at h; cases h
  | some j =>
    rw [q] at h
    exact r.get h
theorem atI_mem {α : Type} {xs : List α} {i : Int} {x : α} (h : atI xs i = some x) : x ∈ xs := by
  unfold atI at h
  cases q : ixN xs.length i with
  | none => rw [q] at h; cases h
  | some j => rw [q] at h; exact List.mem_of_getElem? h
theorem plainIx (h : ∀ l u st p, b ≠ .Slice l u st p) : PlainIx b := fun o i => by
  cases b <;> first | rfl | exact absurd rfl (h _ _ _ _)
def wIx (S : Ctx) : R2 := fun x y H Q => ∃ r : R2, (∀ X, S.has X → IxR X r) ∧ r x y H Q
theorem ix_w {X : Cx} (h : S.has X) : IxR X (wIx S) := fun value slice pins s σ H x y v u Q I rx ry ⟨r, p, q⟩ hs => p X h value slice pins s σ H x y v u Q I rx ry q hs
def ix2 (ma mb : M PyData) : M PyData := fun env => (ma env).bind fun da e1 => (mb e1).bind fun db e2 => match ixD da db with
  | some d => .ok d e2
  | none => .bad
theorem wix_ok {H : Hp} {x y : V} {dx dy d : PyData} {Q : VK} (rx : Rp H x dx) (ry : Rp H y dy) (h : ixD dx dy = some d) (k : ∀ v, Rp H v d → Q v H) : wIx S x y H Q := by
  cases rx with
  | lst h1 l1 r1 =>
    cases ry with
    | int i =>
      obtain ⟨v, e, r⟩ := atI_rps r1 h
      exact ⟨rIxL S.K, fun X hX => by rw [← hX.K]; exact ix_list, _, _, i, v, rfl, rfl, .inl (.inl h1), e, k v r⟩
    | _ => cases h
  | tup h1 l1 r1 =>
    cases ry with
    | int i =>
      obtain ⟨v, e, r⟩ := atI_rps r1 h
      exact ⟨rIxT S.K, fun X hX => by rw [← hX.K]; exact ix_tup, _, _, i, v, rfl, rfl, .inl (.inl h1), e, k v r⟩
    | _ => cases h
  | str z hz =>
    cases ry with
    | int i =>
      have h : (atI z.cps.toList i).map (fun c => PyData.str ⟨#[c]⟩) = some d := h
      cases q : atI z.cps.toList i with
      | none => rw [q] at h; cases h
      | some c =>
        rw [q] at h
        cases h
        refine ⟨rIxS, fun X hX => ix_str, z, i, c, rfl, rfl, hz.1, q, k _ (.str _ (.of (l := [c]) (by show 1 ≤ sizeLine; decide) fun c' hc => ?_))⟩
        have e : c' = c := by simpa using hc
        subst e
        exact hz.mem _ (atI_mem q)
    | _ => cases h
  | _ => cases ry <;> cases h
theorem sd_ix (ha : SD S a ma) (hb : SD S b mb) (hs : ∀ l u st p, b ≠ .Slice l u st p) : SD S (.Subscript a b pos) (ix2 ma mb) := .of fun σ env Z H F I Q mm hm k kx kb => by
  refine ⟨tOp (wIx S) (wE S a) (wE S b), fun X hX => pe_ix (ix_w hX) (pe_w hX) (pe_w hX) (plainIx hs), ?_⟩
  refine ha.go I hm kx kb fun da e1 va Z1 H1 F1 _ q1 I1 r1 s1 => ?_
  refine hb.go I1 q1 (kx.step s1) kb fun db e2 vb Z2 H2 F2 _ q2 I2 r2 s2 => ?_
  cases hr : ixD da db with
  | none => rw [hr] at q2; exact absurd q2 kb
  | some d =>
    rw [hr] at q2
    -- the item lies in Z2, too
    have g : ∀ (Zf : Hp), Ex Zf H2 → Rp Zf va da → Rp Zf vb db → wIx S va vb H2 Q ∨ True := fun _ _ _ _ => .inr trivial
    have ra := r1.mono s2.zz
    have key : ∀ v, Rp H2 v d → (∃ v', v' = v ∧ Rp Z2 v' d) → Q v H2 := fun v _ ⟨v', e, r⟩ => by
      subst e
      exact k _ _ q2 _ Z2 H2 F2 I2 r (s1.trans0 s2)
    -- by kinds
    cases ra with
    | lst h1 l1 rr =>
      cases r2 with
      | int i =>
        obtain ⟨v, e, r⟩ := atI_rps rr hr
        exact ⟨rIxL S.K, fun X hX => by rw [← hX.K]; exact ix_list, _, _, i, v, rfl, rfl, .inl (.inl (I2.sub _ _ h1)), e, k _ _ q2 _ Z2 H2 F2 I2 r (s1.trans0 s2)⟩
      | _ => cases hr
    | tup h1 l1 rr =>
      cases r2 with
      | int i =>
        obtain ⟨v, e, r⟩ := atI_rps rr hr
        exact ⟨rIxT S.K, fun X hX => by rw [← hX.K]; exact ix_tup, _, _, i, v, rfl, rfl, .inl (.inl (I2.sub _ _ h1)), e, k _ _ q2 _ Z2 H2 F2 I2 r (s1.trans0 s2)⟩
      | _ => cases hr
    | str z hz =>
      refine wix_ok (S := S) (.str z hz) (I2.at r2) hr fun v r => ?_
      have hd : ∃ c, d = .str ⟨#[c]⟩ := by
        cases r2 with
        | int i =>
          have h : (atI z.cps.toList i).map (fun c => PyData.str ⟨#[c]⟩) = some d := hr
          cases q : atI z.cps.toList i with
          | none => rw [q] at h; cases h
          | some c => rw [q] at h; cases h; exact ⟨c, rfl⟩
        | _ => cases hr
      obtain ⟨c, rfl⟩ := hd
      cases r with
      | str _ hg => exact k _ _ q2 _ Z2 H2 F2 I2 (.str _ hg) (s1.trans0 s2)
    | _ => cases r2 <;> cases hr

/-! ### slices -/
def cutL {α : Type} (xs : List α) (lo hi : Option Int) : List α := (xs.drop (HT.sIx xs.length 0 lo)).take (HT.sIx xs.length xs.length hi - HT.sIx xs.length 0 lo)
def slcD : PyData → Option Int → Option Int → Option OV
  | .list xs, lo, hi => some (.ol ((cutL xs lo hi).map .fz))
  | .str x, lo, hi => some (.fz (.str ⟨(cutL x.cps.toList lo hi).toArray⟩))
  | .tuple xs, lo, hi => if HT.sIx xs.length 0 lo = 0 ∧ HT.sIx xs.length xs.length hi = xs.length then none else some (.fz (.tuple (cutL xs lo hi)))
  | _, _, _ => none
theorem cutL_len {α : Type} (xs : List α) (lo hi : Option Int) : (cutL xs lo hi).length ≤ xs.length := by
  unfold cutL
  rw [List.length_take, List.length_drop]
  omega
theorem cutL_mem {α : Type} {xs : List α} {lo hi : Option Int} {x : α} (h : x ∈ cutL xs lo hi) : x ∈ xs := List.mem_of_mem_drop (List.mem_of_mem_take h)
theorem Rps.cut {H : Hp} {vs : List V} {ds : List PyData} (r : Rps H vs ds) (lo hi : Option Int) : Rps H (cutV vs lo hi) (cutL ds lo hi) := by
  unfold cutV cutL
  rw [r.length]
  exact (r.drop _).take _
/-- an optional part of a slice -/
abbrev MO := M (Option Int)
def SP' (S : Ctx) (oe : Option Expr) (m : MO) : Prop := ∀ (σ : St) (env : Env) (Z H : Hp) (F : Fp), SI S.K Z H σ env F → ∀ Q : Option Int → Hp → Prop,
  (∀ o env', m env = .ok o env' → ∀ Z' H' F', SI S.K Z' H' σ env' F' → Stp Z H F Z' H' F' [] → Q o H') →
  KX S σ Z H F (m env) → m env ≠ .bad → ∃ t : TO, (∀ X, S.has X → PO X oe t) ∧ t σ H Q
def wO (S : Ctx) (oe : Option Expr) : TO := fun σ H Q => ∃ t : TO, (∀ X, S.has X → PO X oe t) ∧ t σ H Q
theorem po_w {oe : Option Expr} {X : Cx} (h : S.has X) : PO X oe (wO S oe) := ⟨fun pins s σ H Q I ⟨t, p, q⟩ => (p X h).run pins s σ H Q I q⟩
theorem sp_none : SP' S none (fun env => .ok none env) := fun σ env Z H F I Q k kx kb => ⟨tNoPart, fun X hX => po_none, k _ _ rfl Z H F I .refl⟩
def partM (ma : M PyData) : MO := fun env => (ma env).bind fun d e1 => match d with
  | .int i => .ok (some i) e1
  | _ => .bad
theorem sp_some (ha : SD S a ma) : SP' S (some a) (partM ma) := fun σ env Z H F I Q k kx kb => by
  refine ⟨tPart (wE S a), fun X hX => po_some (pe_w hX), ?_⟩
  obtain ⟨mm, hm⟩ : ∃ mm, mm = partM ma env := ⟨_, rfl⟩
  rw [← hm] at kx kb
  refine ha.go I hm kx kb fun d e1 va Z1 H1 F1 _ q1 I1 r1 s1 => ?_
  cases r1 with
  | int i => exact ⟨i, rfl, k _ _ (hm.symm.trans q1) Z1 H1 F1 I1 s1⟩
  | _ => exact absurd q1 kb
theorem SP'.go {oe : Option Expr} {m : MO} (h : SP' S oe m) {σ : St} {env : Env} {Z H : Hp} {F : Fp} {β : Type} (I : SI S.K Z H σ env F) {mm : Rs β} {kk : Option Int → Env → Rs β} (hm : mm = (m env).bind kk) (kx : KX S σ Z H F mm) (kb : mm ≠ .bad) {Q : Option Int → Hp → Prop}
    (k : ∀ d env1 Z1 H1 F1, m env = .ok d env1 → mm = kk d env1 → SI S.K Z1 H1 σ env1 F1 → Stp Z H F Z1 H1 F1 [] → Q d H1) : wO S oe σ H Q :=
  h σ env Z H F I Q (fun r env1 e Z1 H1 F1 I1 s1 => k r env1 Z1 H1 F1 e (by rw [hm, e]; rfl) I1 s1) (kx.bind hm) (bind_nb hm kb)
def wSl (S : Ctx) : V → Option Int → Option Int → Hp → VK → Prop := fun x lo hi H Q => ∃ r : V → Option Int → Option Int → Hp → VK → Prop, (∀ X, S.has X → SlR X r) ∧ r x lo hi H Q
theorem slr_w {X : Cx} (h : S.has X) : SlR X (wSl S) := fun pins s σ H x v vl vu lo hi sl Q I rx hs pl pu ⟨r, p, q⟩ => p X h pins s σ H x v vl vu lo hi sl Q I rx hs pl pu q
def slc3 (ma : M PyData) (ml mh : MO) : M OV := fun env => (ma env).bind fun da e1 => (ml e1).bind fun lo e2 => (mh e2).bind fun hi e3 => Rs.o (slcD da lo hi) e3
theorem StrG.cut {x : Str} (h : StrG x) (lo hi : Option Int) : StrG ⟨(cutL x.cps.toList lo hi).toArray⟩ := by
  refine .of ?_ fun c hc => h.mem c (cutL_mem hc)
  exact Nat.le_trans (cutL_len _ _ _) (by rw [Array.length_toList]; exact h.1)
theorem sv_slice {lo hi : Option Expr} {ml mh : MO} {p2 : Pos} (ha : SD S a ma) (hl : SP' S lo ml) (hh : SP' S hi mh) : SV S (.Subscript a (.Slice lo hi none p2) pos) (slc3 ma ml mh) := .of fun σ env Z H F I Q mm hm k kx kb => by
  refine ⟨tSl (wSl S) (wE S a) (wO S lo) (wO S hi), fun X hX => pe_slice (slr_w hX) (pe_w hX) (po_w hX) (po_w hX), ?_⟩
  refine ha.go I hm kx kb fun da e1 va Z1 H1 F1 _ q1 I1 r1 s1 => ?_
  refine hl.go I1 q1 (kx.step s1) kb fun lo e2 Z2 H2 F2 _ q2 I2 s2 => ?_
  refine hh.go I2 q2 ((kx.step s1).step s2) kb fun hi e3 Z3 H3 F3 _ q3 I3 s3 => ?_
  rw [q3] at kb
  obtain ⟨r, hr⟩ := ro_nb kb
  have ra := (r1.mono s2.zz).mono s3.zz
  have st := (s1.trans0 s2).trans0 s3
  have fin : ∀ v Z' H' G, SI S.K Z' H' σ e3 F3 → OR S.K Z' H' v r G → Stp Z3 H3 F3 Z' H' F3 G → Q v H' := fun v Z' H' G I' o' s' => k r e3 (by rw [q3, hr]; rfl) v Z' H' F3 G I' o' (st.trans0 s')
  cases ra with
  | @lst p1 vs1 ds1 h1 l1 rr =>
    have e : r = .ol ((cutL ds1 lo hi).map .fz) := (Option.some.inj hr).symm
    refine ⟨rSlL S.K, fun X hX => by rw [← hX.K]; exact sl_list, p1, vs1, rfl, .inl (.inl (I3.sub _ _ h1)), fun p hp => ?_⟩
    obtain ⟨I', o', s'⟩ := I3.newL hp (rr.cut lo hi) (Nat.le_trans (cutV_length _ _ _) l1)
    rw [← e] at o'
    exact fin _ _ _ _ I' o' s'
  | @tup p1 vs1 ds1 h1 l1 rr =>
    have hr : (if HT.sIx ds1.length 0 lo = 0 ∧ HT.sIx ds1.length ds1.length hi = ds1.length then none else some (OV.fz (.tuple (cutL ds1 lo hi)))) = some r := hr
    split at hr
    · cases hr
    · rename_i hn
      have e : r = .fz (.tuple (cutL ds1 lo hi)) := (Option.some.inj hr).symm
      refine ⟨rSlT S.K, fun X hX => by rw [← hX.K]; exact sl_tup, p1, vs1, rfl, .inl (.inl (I3.sub _ _ h1)), by rw [rr.length]; exact hn, fun p hp => ?_⟩
      obtain ⟨I', o', s'⟩ := I3.newT hp (rr.cut lo hi) (Nat.le_trans (cutV_length _ _ _) l1)
      rw [e] at fin
      exact fin _ _ _ _ I' (.fz o') s'
  | str z hz =>
    have e : r = .fz (.str ⟨(cutL z.cps.toList lo hi).toArray⟩) := (Option.some.inj hr).symm
    refine ⟨rSlS, fun X hX => sl_str, z, rfl, hz.1, ?_⟩
    have e2 : cutS z lo hi = ⟨(cutL z.cps.toList lo hi).toArray⟩ := by
      unfold cutS cutL
      rw [show z.length = z.cps.toList.length from (Array.length_toList).symm]
    rw [e2]
    rw [e] at fin
    exact fin _ Z3 H3 [] I3 (.fz (.str _ (hz.cut lo hi))) .refl
  | _ => cases hr
end
end Vi

set_option Elab.async false
set_option linter.all false
set_option maxRecDepth 100000
namespace Vi
open PySem L2

/-! ### what is walked -/
/-- an iterator that gives the data ds, one after another -/
structure Wk (J : It) (Z0 : Hp) (ds : List PyData) : Prop where
  len : ds.length ≤ sizeLine
  ex : ∃ (G : Hp → Prop) (Y : Nat → Hp → V → Hp → Prop), Walk J ds.length G Y ∧ (∀ H, Ex Z0 H → G H) ∧
    ∀ i H x H' d, Y i H x H' → ds[i]? = some d → ∀ Z, Ex Z0 Z → Ex Z H → ∃ Z', Ex Z Z' ∧ Ex Z' H' ∧ Ex H H' ∧ Rp Z' x d ∧ ∀ b, Z' b ≠ none → Z b ≠ none ∨ H b = none
def wI (S : Ctx) (tg it : Expr) : TI := fun σ H R => ∃ wi : TI, (∀ X, S.has X → PI X tg it wi) ∧ wi σ H R
theorem pi_w {S : Ctx} {tg it : Expr} {X : Cx} (h : S.has X) : PI X tg it (wI S tg it) := ⟨fun pins s σ H R I ⟨t, p, q⟩ => (p X h).run pins s σ H R I q⟩
/-- what an iterable gives -/
def SIt (S : Ctx) (tg it : Expr) (m : M (List PyData)) : Prop := ∀ (σ : St) (env : Env) (Z H : Hp) (F : Fp), SI S.K Z H σ env F → ∀ R : It → Hp → Prop,
  (∀ ds env', m env = .ok ds env' → ∀ J Z' H' F', SI S.K Z' H' σ env' F' → Wk J Z' ds → Stp Z H F Z' H' F' [] → R J H') →
  KX S σ Z H F (m env) → m env ≠ .bad → wI S tg it σ H R
section
variable {S : Ctx} {a b c e tg : Expr} {es : List Expr} {ma mb mc : M PyData} {pos : Pos}
theorem SIt.go {m : M (List PyData)} (h : SIt S tg e m) {σ : St} {env : Env} {Z H : Hp} {F : Fp} {β : Type} (I : SI S.K Z H σ env F) {mm : Rs β} {kk : List PyData → Env → Rs β} (hm : mm = (m env).bind kk) (kx : KX S σ Z H F mm) (kb : mm ≠ .bad) {R : It → Hp → Prop}
    (k : ∀ ds env1 J Z1 H1 F1, m env = .ok ds env1 → mm = kk ds env1 → SI S.K Z1 H1 σ env1 F1 → Wk J Z1 ds → Stp Z H F Z1 H1 F1 [] → R J H1) : wI S tg e σ H R :=
  h σ env Z H F I R (fun r env1 e J Z1 H1 F1 I1 r1 s1 => k r env1 J Z1 H1 F1 e (by rw [hm, e]; rfl) I1 r1 s1) (kx.bind hm) (bind_nb hm kb)
def signs (x : Str) : List PyData := x.cps.toList.map fun c => .str ⟨#[c]⟩
def itD : PyData → Option (List PyData)
  | .list ds => some ds
  | .tuple ds => some ds
  | .str x => some (signs x)
  | _ => none
def itM (ma : M PyData) : M (List PyData) := fun env => (ma env).bind fun d e1 => match itD d with
  | some ds => .ok ds e1
  | none => .bad
theorem wk_seq {J : It} {K : PySem.W.Frag} {G : Hp → Prop} {Z0 : Hp} {vs : List V} {ds : List PyData} (w : Walk J vs.length G (YAt vs)) (hG : ∀ H, Ex Z0 H → G H) (r : Rps Z0 vs ds) (hl : vs.length ≤ sizeLine) : Wk J Z0 ds := by
  refine ⟨by rw [← r.length]; exact hl, G, YAt vs, by rw [← r.length]; exact w, hG, fun i H x H' d y hd Z e1 e2 => ?_⟩
  obtain ⟨rfl, hx⟩ := y
  obtain ⟨v, hv, rv⟩ := r.get hd
  rw [hx] at hv
  cases hv
  exact ⟨Z, Same.refl _, e2, Same.refl _, rv.mono e1, fun b h => .inl h⟩
theorem wk_str {x : Str} {Z0 : Hp} (hx : StrG x) : Wk (Its x) Z0 (signs x) := by
  have hl : (signs x).length = x.cps.size := by unfold signs; rw [List.length_map, Array.length_toList]
  refine ⟨by rw [hl]; exact hx.1, fun _ => True, _, by rw [hl]; exact walk_str, fun _ _ => trivial, fun i H v H' d y hd Z e1 e2 => ?_⟩
  obtain ⟨rfl, c, hc, rfl⟩ := y
  have e : d = .str ⟨#[c]⟩ := by
    unfold signs at hd
    rw [List.getElem?_map, Array.getElem?_toList, hc] at hd
    exact (Option.some.inj hd).symm
  subst e
  refine ⟨Z, Same.refl _, e2, Same.refl _, .str _ (.of (l := [c]) (by show 1 ≤ sizeLine; decide) fun c' hc' => ?_), fun b h => .inl h⟩
  have e : c' = c := by simpa using hc'
  subst e
  exact hx.mem _ (Array.mem_toList_iff.mpr (Array.mem_of_getElem? hc))
theorem si_e (ha : SD S a ma) : SIt S tg a (itM ma) := fun σ env Z H F I R k kx kb => by
  obtain ⟨mm, hm⟩ : ∃ mm, mm = itM ma env := ⟨_, rfl⟩
  rw [← hm] at kx kb
  cases q : ma env with
  | bad => exact absurd (by rw [hm]; unfold itM; rw [q]; rfl) kb
  | ex x e => exact ⟨iList S.K (wE S a), fun X hX => by rw [← hX.K]; exact pi_list (pe_w hX), ha.go I hm kx kb fun d e1 va Z1 H1 F1 q0 => by rw [q] at q0; cases q0⟩
  | ok d e1 =>
    have hd : ∃ ds, itD d = some ds ∧ mm = .ok ds e1 := by
      have z : mm = (match itD d with | some ds => Rs.ok ds e1 | none => .bad) := by rw [hm]; unfold itM; rw [q]; rfl
      cases qd : itD d with
      | none => rw [qd] at z; exact absurd z kb
      | some ds => rw [qd] at z; exact ⟨ds, rfl, z⟩
    obtain ⟨ds, hd, hmm⟩ := hd
    cases d with
    | list xs =>
      refine ⟨iList S.K (wE S a), fun X hX => by rw [← hX.K]; exact pi_list (pe_w hX), ha.go I hm kx kb fun d' e1' va Z1 H1 F1 q0 q1 I1 r1 s1 => ?_⟩
      rw [q] at q0; cases q0; cases hd
      cases r1 with
      | @lst p vs _ h1 l1 rr => exact ⟨p, rfl, ⟨vs, .inl (.inl (I1.sub _ _ h1))⟩, k _ _ (hm.symm.trans hmm) _ Z1 H1 F1 I1 (wk_seq (K := S.K) walk_list (fun H e => .inl (.inl (e _ _ h1))) rr l1) s1⟩
    | tuple xs =>
      refine ⟨iTup S.K (wE S a), fun X hX => by rw [← hX.K]; exact pi_tup (pe_w hX), ha.go I hm kx kb fun d' e1' va Z1 H1 F1 q0 q1 I1 r1 s1 => ?_⟩
      rw [q] at q0; cases q0; cases hd
      cases r1 with
      | @tup p vs _ h1 l1 rr => exact ⟨p, rfl, ⟨vs, .inl (.inl (I1.sub _ _ h1))⟩, k _ _ (hm.symm.trans hmm) _ Z1 H1 F1 I1 (wk_seq (K := S.K) walk_tup (fun H e => .inl (.inl (e _ _ h1))) rr l1) s1⟩
    | str x =>
      refine ⟨iStr (wE S a), fun X hX => pi_str (pe_w hX), ha.go I hm kx kb fun d' e1' va Z1 H1 F1 q0 q1 I1 r1 s1 => ?_⟩
      rw [q] at q0; cases q0; cases hd
      cases r1 with
      | str _ hx => exact ⟨x, rfl, k _ _ (hm.symm.trans hmm) _ Z1 H1 F1 I1 (wk_str hx) s1⟩
    | _ => cases hd
/-! ranges -/
def rngL (lo hi : Int) : List PyData := (List.range (hi - lo).toNat).map fun (i : Nat) => .int (lo + (i : Int))
def rngD : List PyData → Option (List PyData)
  | [.int hi] => if hi ≤ 16777216 ∧ -(2 ^ 62) ≤ hi then some (rngL 0 hi) else none
  | [.int lo, .int hi] => if (-(2 ^ 61) ≤ lo ∧ lo < 2 ^ 61) ∧ (-(2 ^ 61) ≤ hi ∧ hi < 2 ^ 61) ∧ hi - lo ≤ 16777216 then some (rngL lo hi) else none
  | _ => none
def rngM (ml : M (List PyData)) : M (List PyData) := fun env => (ml env).bind fun ds e1 => match rngD ds with
  | some xs => .ok xs e1
  | none => .bad
theorem wk_rng {lo hi : Int} {Z0 : Hp} (h : hi - lo ≤ 16777216) : Wk (Itr lo (hi - lo).toNat) Z0 (rngL lo hi) := by
  have hl : (rngL lo hi).length = (hi - lo).toNat := by unfold rngL; rw [List.length_map, List.length_range]
  refine ⟨by rw [hl, sizeLine_eq]; omega, fun _ => True, _, by rw [hl]; exact walk_range, fun _ _ => trivial, fun i H v H' d y hd Z e1 e2 => ?_⟩
  obtain ⟨rfl, rfl⟩ := y
  have e : d = .int (lo + (i : Int)) := by
    unfold rngL at hd
    rw [List.getElem?_map] at hd
    cases q : (List.range (hi - lo).toNat)[i]? with
    | none => rw [q] at hd; cases hd
    | some j =>
      rw [q] at hd
      obtain ⟨h1, h2⟩ := List.getElem?_eq_some_iff.mp q
      rw [List.getElem_range] at h2
      subst h2
      exact (Option.some.inj hd).symm
  subst e
  exact ⟨Z, Same.refl _, e2, Same.refl _, .int _, fun b h => .inl h⟩
theorem rngD1 {d : PyData} {xs : List PyData} (h : rngD [d] = some xs) : ∃ hi, d = .int hi ∧ xs = rngL 0 hi ∧ hi ≤ 16777216 ∧ -(2 ^ 62) ≤ hi := by
  cases d with
  | int hi =>
    simp only [rngD] at h
    split at h
    · rename_i z; exact ⟨hi, rfl, (Option.some.inj h).symm, z.1, z.2⟩
    · cases h
  | _ => cases h
theorem rngD2 {d d' : PyData} {xs : List PyData} (h : rngD [d, d'] = some xs) : ∃ lo hi, d = .int lo ∧ d' = .int hi ∧ xs = rngL lo hi ∧ (-(2 ^ 61) ≤ lo ∧ lo < 2 ^ 61) ∧ (-(2 ^ 61) ≤ hi ∧ hi < 2 ^ 61) ∧ hi - lo ≤ 16777216 := by
  cases d with
  | int lo =>
    cases d' with
    | int hi =>
      simp only [rngD] at h
      split at h
      · rename_i z; exact ⟨lo, hi, rfl, rfl, (Option.some.inj h).symm, z⟩
      · cases h
    | _ => cases h
  | _ => cases d' <;> cases h
theorem Rps.one {H : Hp} {vs : List V} {d : PyData} (r : Rps H vs [d]) : ∃ v, vs = [v] ∧ Rp H v d := by
  cases r with
  | cons h r => cases r; exact ⟨_, rfl, h⟩
theorem Rps.two {H : Hp} {vs : List V} {d d' : PyData} (r : Rps H vs [d, d']) : ∃ v v', vs = [v, v'] ∧ Rp H v d ∧ Rp H v' d' := by
  cases r with
  | cons h r =>
    obtain ⟨v', rfl, h'⟩ := r.one
    exact ⟨_, _, rfl, h, h'⟩
theorem one_of {ma : M PyData} {ds : List PyData} {env e1 : Env} (h : consL ma (fun env => .ok [] env) env = .ok ds e1) : ∃ d, ds = [d] := by
  unfold consL at h
  cases q : ma env with
  | ok d e => rw [q] at h; simp [Rs.bind] at h; exact ⟨d, h.1.symm⟩
  | ex x e => rw [q] at h; cases h
  | bad => rw [q] at h; cases h
theorem two_of {ma mb : M PyData} {ds : List PyData} {env e1 : Env} (h : consL ma (consL mb (fun env => .ok [] env)) env = .ok ds e1) : ∃ d d', ds = [d, d'] := by
  unfold consL at h
  cases q : ma env with
  | ok d e =>
    rw [q] at h
    cases q2 : mb e with
    | ok d' e' => simp [Rs.bind, q2] at h; exact ⟨d, d', h.1.symm⟩
    | ex x e' => simp [Rs.bind, q2] at h
    | bad => simp [Rs.bind, q2] at h
  | ex x e => rw [q] at h; cases h
  | bad => rw [q] at h; cases h
theorem star1 {env : PySem.Env} (h : notStar a = true) : starEach [a] env = [(false, PySem.eval a env)] := star_cons h
theorem star2 {env : PySem.Env} (h : notStar a = true) (h2 : notStar b = true) : starEach [a, b] env = [(false, PySem.eval a env), (false, PySem.eval b env)] := by rw [star_cons h, star_cons h2]; rfl
/-- how a built-in's name is read -/
structure BltName (S : Ctx) (x : Str) : Prop where
  gl : S.scope.names.lookup x = some .globalImplicit
  no : S.mg x = none
theorem BltName.g {x : Str} (n : BltName S x) {X : Cx} (h : S.has X) : Gl X x ∧ X.mg x = none := ⟨by show X.env.scope.names.lookup x = _; rw [h.scope]; exact n.gl, by rw [h.mg]; exact n.no⟩
theorem si_rng1 {p : Pos} (n : BltName S "range") (ha : SD S a ma) (hn : notStar a = true) : SIt S tg (.Call (.Name "range" p) [a] [] pos) (rngM (consL ma (fun env => .ok [] env))) := fun σ env Z H F I R k kx kb => by
  obtain ⟨mm, hm⟩ : ∃ mm, mm = rngM (consL ma (fun env => .ok [] env)) env := ⟨_, rfl⟩
  rw [← hm] at kx kb
  refine ⟨iRng1 (wA S [a]), fun X hX => pi_range1 (n.g hX).1 (n.g hX).2 (pa_w hX) (star1 hn), ?_⟩
  refine (sl_cons ha sl_nil hn).go I hm kx kb fun ds e1 vs Z1 H1 F1 q0 q1 I1 r1 s1 => ?_
  obtain ⟨d, rfl⟩ := one_of q0
  cases qd : rngD [d] with
  | none => rw [qd] at q1; exact absurd q1 kb
  | some xs =>
    rw [qd] at q1
    obtain ⟨hi, rfl, rfl, h1, h2⟩ := rngD1 qd
    obtain ⟨v, rfl, rv⟩ := r1.one
    cases rv
    have e : hi.toNat = (hi - 0).toNat := by rw [Int.sub_zero]
    refine ⟨hi, rfl, h2, by omega, ?_⟩
    rw [e]
    exact k _ _ (hm.symm.trans q1) _ Z1 H1 F1 I1 (wk_rng (by omega)) s1
theorem si_rng2 {p : Pos} (n : BltName S "range") (ha : SD S a ma) (hb : SD S b mb) (hn : notStar a = true) (hn2 : notStar b = true) : SIt S tg (.Call (.Name "range" p) [a, b] [] pos) (rngM (consL ma (consL mb (fun env => .ok [] env)))) := fun σ env Z H F I R k kx kb => by
  obtain ⟨mm, hm⟩ : ∃ mm, mm = rngM (consL ma (consL mb (fun env => .ok [] env))) env := ⟨_, rfl⟩
  rw [← hm] at kx kb
  refine ⟨iRng2 (wA S [a, b]), fun X hX => pi_range2 (n.g hX).1 (n.g hX).2 (pa_w hX) (star2 hn hn2) (star1 hn2), ?_⟩
  refine (sl_cons ha (sl_cons hb sl_nil hn2) hn).go I hm kx kb fun ds e1 vs Z1 H1 F1 q0 q1 I1 r1 s1 => ?_
  obtain ⟨d, d', rfl⟩ := two_of q0
  cases qd : rngD [d, d'] with
  | none => rw [qd] at q1; exact absurd q1 kb
  | some xs =>
    rw [qd] at q1
    obtain ⟨lo, hi, rfl, rfl, rfl, h1, h2, h3⟩ := rngD2 qd
    obtain ⟨v, v', rfl, rv, rv'⟩ := r1.two
    cases rv; cases rv'
    exact ⟨lo, hi, rfl, by omega, k _ _ (hm.symm.trans q1) _ Z1 H1 F1 I1 (wk_rng h3) s1⟩

/-! ### targets -/
/-- a target stores into the slots js -/
def SG (S : Ctx) (tg : Expr) (js : List Nat) (bd : PyData → Env → Option Env) : Prop := ∀ (σ : St) (env env' : Env) (Z H : Hp) (F : Fp) (v : V) (d : PyData), SI S.K Z H σ env F → Rp Z v d → bd d env = some env' →
  ∀ Q : St → Hp → Prop, (∀ σ' F', SI S.K Z H σ' env' F' → Stp Z H F Z H F' [] → (∀ j, j ∉ js → σ'[j]? = σ[j]?) → σ'.length = σ.length → Q σ' H) → wG S tg v σ H Q
structure StoOk (S : Ctx) (i : Nat) (x : Str) : Prop where
  at_ : S.N[i]? = some x
  loc : Loc S.scope x
  fn : S.fn x = true ∨ S.scope.names.lookup x = some .local
  nd : S.N.Nodup
def bdN (i : Nat) : PyData → Env → Option Env := fun d env => if i < env.length then some (env.set i (some (.fz d))) else none
theorem set_stp {Z H : Hp} {F : Fp} {i : Nat} : Stp Z H F Z H (setF F i []) [] := ⟨Same.refl _, fun _ _ h _ => h, fun b h => h.elim (fun z => by cases z) fun ⟨j, z⟩ => by
    by_cases qj : j = i
    · subst qj; rw [setF_same] at z; cases z
    · rw [setF_ne qj] at z; exact .inl ⟨j, z⟩, fun _ h => .inl h, fun _ _ h => by cases h⟩
theorem setF_2 {F : Fp} {i : Nat} {G G' : List Addr} : setF (setF F i G) i G' = setF F i G' := by
  funext j
  by_cases q : j = i
  · subst q; rw [setF_same, setF_same]
  · rw [setF_ne q, setF_ne q, setF_ne q]
theorem SI.store {K : PySem.W.Frag} {Z H : Hp} {σ : St} {env : Env} {F : Fp} {v : V} {x : OV} {G : List Addr} {i : Nat} (I : SI K Z H σ env F) (hi : i < env.length) (r : OR K Z H v x G) (d : ∀ j b, b ∈ G → b ∉ F j) : SI K Z H (σ.set i (some v)) (env.set i (some x)) (setF F i G) :=
  I.put hi r d
theorem sg_name {i : Nat} {x : Str} (n : StoOk S i x) : SG S (.Name x pos) [i] (bdN i) := fun σ env env' Z H F v d I r hb Q k => by
  refine ⟨gName i, fun X hX => pg_name (by rw [hX.N]; exact n.nd) (by rw [hX.N]; exact n.at_) (by rw [hX.scope]; exact n.loc) (by rw [hX.fn, hX.scope]; exact n.fn), ?_⟩
  unfold bdN at hb
  split at hb
  · rename_i hi
    cases hb
    refine k _ _ (I.store hi (.fz r) fun _ _ z => by cases z) set_stp (fun j hj => ?_) (by rw [List.length_set])
    rw [List.getElem?_set_ne]
    intro e; exact hj (by simp [e])
  · cases hb
/-- several targets, one after another -/
def SGs (S : Ctx) (ts : List Expr) (js : List Nat) (bd : List PyData → Env → Option Env) : Prop := ∀ (σ : St) (env env' : Env) (Z H : Hp) (F : Fp) (vs : List V) (ds : List PyData), SI S.K Z H σ env F → Rps Z vs ds → bd ds env = some env' →
  ∀ Q : St → Hp → Prop, (∀ σ' F', SI S.K Z H σ' env' F' → Stp Z H F Z H F' [] → (∀ j, j ∉ js → σ'[j]? = σ[j]?) → σ'.length = σ.length → Q σ' H) → ∃ t : TGs, (∀ X, S.has X → PGs X ts t) ∧ t vs σ H Q
def wGs (S : Ctx) (ts : List Expr) : TGs := fun vs σ H Q => ∃ t : TGs, (∀ X, S.has X → PGs X ts t) ∧ t vs σ H Q
theorem pgs_w {ts : List Expr} {X : Cx} (h : S.has X) : PGs X ts (wGs S ts) := ⟨fun pins s σ H vs us Q I r ⟨t, p, q⟩ => (p X h).run pins s σ H vs us Q I r q⟩
def bdNil : List PyData → Env → Option Env
  | [], env => some env
  | _ :: _, _ => none
def bdCons (b1 : PyData → Env → Option Env) (bs : List PyData → Env → Option Env) : List PyData → Env → Option Env
  | [], _ => none
  | d :: ds, env => (b1 d env).bind fun e1 => bs ds e1
theorem sgs_nil : SGs S [] [] bdNil := fun σ env env' Z H F vs ds I r hb Q k => by
  refine ⟨gNil, fun X hX => pgs_nil, ?_⟩
  cases r with
  | nil => cases hb; exact ⟨rfl, k σ F I .refl (fun _ _ => rfl) rfl⟩
  | cons _ _ => cases hb
theorem aeach_cons {t : Expr} {ts : List Expr} {env : PySem.Env} (h : notStar t = true) : assignEach (t :: ts) env = (false, assign t env) :: assignEach ts env := by
  cases t <;> first | rfl | cases h
theorem sgs_cons {t : Expr} {ts : List Expr} {js ks : List Nat} {b1 : PyData → Env → Option Env} {bs : List PyData → Env → Option Env} (h1 : SG S t js b1) (h2 : SGs S ts ks bs) (hn : notStar t = true) : SGs S (t :: ts) (js ++ ks) (bdCons b1 bs) := fun σ env env' Z H F vs ds I r hb Q k => by
  refine ⟨gCons (wG S t) (wGs S ts), fun X hX => pgs_cons (pg_w hX) (pgs_w hX) (by rw [aeach_cons hn]; rfl), ?_⟩
  cases r with
  | nil => cases hb
  | @cons v d vs ds r rr =>
    have hb : (b1 d env).bind (fun e1 => bs ds e1) = some env' := hb
    cases q : b1 d env with
    | none => rw [q] at hb; cases hb
    | some e1 =>
      rw [q] at hb
      refine ⟨v, vs, rfl, h1 σ env e1 Z H F v d I r q _ fun σ1 F1 I1 s1 k1 l1 => ?_⟩
      exact h2 σ1 e1 env' Z H F1 vs ds I1 rr hb _ fun σ2 F2 I2 s2 k2 l2 => k σ2 F2 I2 (s1.trans0 s2) (fun j hj => (k2 j fun z => hj (List.mem_append_right _ z)).trans (k1 j fun z => hj (List.mem_append_left _ z))) (l2.trans l1)
def bdT (n : Nat) (bs : List PyData → Env → Option Env) : PyData → Env → Option Env
  | .tuple ds, env => if ds.length = n then bs ds env else none
  | .list ds, env => if ds.length = n then bs ds env else none
  | _, _ => none
theorem aeach_len {ts : List Expr} {env : PySem.Env} : (assignEach ts env).length = ts.length := by
  induction ts with
  | nil => rfl
  | cons t ts ih => cases t <;> simp [assignEach, ih]
theorem aeach_nost {ts : List Expr} {env : PySem.Env} (h : ts.all notStar = true) : (assignEach ts env).findIdx? (·.1) = none := by
  induction ts with
  | nil => rfl
  | cons t ts ih =>
    rw [List.all_cons, Bool.and_eq_true] at h
    rw [aeach_cons h.1, List.findIdx?_cons, ih h.2]
    rfl
theorem sg_tup {ts : List Expr} {k0 : Nat} {js : List Nat} {bs : List PyData → Env → Option Env} (h : SGs S ts js bs) (hn : ts.all notStar = true) : SG S (.Tuple ts k0 pos) js (bdT ts.length bs) := fun σ env env' Z H F v d I r hb Q k => by
  cases r with
  | @tup p vs ds h1 l1 rr =>
    have hb : (if ds.length = ts.length then bs ds env else none) = some env' := hb
    split at hb
    · rename_i hl
      refine ⟨gTup S.K ts.length (wGs S ts), fun X hX => by rw [← hX.K]; exact pg_tup hX.calm (pgs_w hX) aeach_len (aeach_nost hn), ?_⟩
      exact ⟨p, vs, rfl, .inl (.inl (I.sub _ _ h1)), by rw [rr.length]; exact hl, h σ env env' Z H F vs ds I rr hb Q k⟩
    · cases hb
  | @lst p vs ds h1 l1 rr =>
    have hb : (if ds.length = ts.length then bs ds env else none) = some env' := hb
    split at hb
    · rename_i hl
      refine ⟨gLst S.K ts.length (wGs S ts), fun X hX => by rw [← hX.K]; exact pg_lst hX.calm (pgs_w hX) aeach_len (aeach_nost hn), ?_⟩
      exact ⟨p, vs, rfl, .inl (.inl (I.sub _ _ h1)), by rw [rr.length]; exact hl, h σ env env' Z H F vs ds I rr hb Q k⟩
    · cases hb
  | _ => cases hb
end
end Vi

set_option Elab.async false
set_option linter.all false
set_option maxRecDepth 100000
namespace Vi
open PySem L2

/-! ### a comprehension's block -/
def Ctx.blk (S : Ctx) (scope : Scope) : Ctx := { S with scope := relS scope S.scope, fn := fun x => scope.names.lookup x == some .cell, W := fun _ _ _ _ => False, top := false }
theorem has_blk {S : Ctx} {X : Cx} (h : S.has X) (scope : Scope) (s : Shared) (H : Hp) (C : Addr) (cl : List (Str × Addr)) (fp : List Addr) : (S.blk scope).has (X.blk s H scope (compEnvC scope cl C X.env) fp) where
  prog := h.prog
  w := h.w
  K := h.K
  mg := h.mg
  base := h.base
  N := h.N
  scope := by show relS scope X.env.scope = relS scope S.scope; rw [h.scope]
  fn := rfl
  calm := h.calm
  top := fun z => by cases z
  room := h.room
  own := PassesOwn.never
  takes := takesN
def wipeE (env : Env) : List Nat → Env
  | [] => env
  | v :: vs => (wipeE env vs).set v none
def wipeF (F : Fp) : List Nat → Fp
  | [] => F
  | v :: vs => setF (wipeF F vs) v []
def resE : List Nat → Env → Env → Env
  | [], _, e => e
  | v :: vs, e0, e => (resE vs e0 e).set v (e0[v]?.getD none)
theorem resE_len (e0 : Env) : ∀ (vs : List Nat) (e : Env), (resE vs e0 e).length = e.length
  | [], e => rfl
  | v :: vs, e => by unfold resE; rw [List.length_set, resE_len e0 vs e]
theorem resE_in (e0 : Env) : ∀ (vs : List Nat) (e : Env) (j : Nat), j ∈ vs → j < e.length → (resE vs e0 e)[j]? = some (e0[j]?.getD none)
  | v :: vs, e, j, h, hl => by
    unfold resE
    by_cases q : v = j
    · subst q
      rw [List.getElem?_set_self (by rw [resE_len]; exact hl)]
    · rw [List.getElem?_set_ne q]
      refine resE_in e0 vs e j ?_ hl
      rcases List.mem_cons.mp h with z | z
      · exact absurd z.symm q
      · exact z
theorem resE_out (e0 : Env) : ∀ (vs : List Nat) (e : Env) (j : Nat), j ∉ vs → (resE vs e0 e)[j]? = e[j]?
  | [], e, j, _ => rfl
  | v :: vs, e, j, h => by
    unfold resE
    rw [List.getElem?_set_ne fun q => h (by simp [q])]
    exact resE_out e0 vs e j fun z => h (List.mem_cons_of_mem _ z)
theorem wipeF_in {F : Fp} : ∀ {vs : List Nat} {j : Nat}, j ∈ vs → wipeF F vs j = []
  | v :: vs, j, h => by
    unfold wipeF
    by_cases q : j = v
    · subst q; exact setF_same
    · rw [setF_ne q]
      rcases List.mem_cons.mp h with z | z
      · exact absurd z q
      · exact wipeF_in z
theorem wipeF_out {F : Fp} : ∀ {vs : List Nat} {j : Nat}, j ∉ vs → wipeF F vs j = F j
  | [], j, _ => rfl
  | v :: vs, j, h => by
    unfold wipeF
    rw [setF_ne fun q => h (by simp [q])]
    exact wipeF_out fun z => h (List.mem_cons_of_mem _ z)
theorem wipeF_sub {F : Fp} {vs : List Nat} {j : Nat} {b : Addr} (h : b ∈ wipeF F vs j) : b ∈ F j := by
  by_cases q : j ∈ vs
  · rw [wipeF_in q] at h; cases h
  · rw [wipeF_out q] at h; exact h
section
variable {K : PySem.W.Frag} {Z Z' H H' : Hp} {σ σ' : St} {env env' : Env} {F F' : Fp} {G : List Addr} {vs : List Nat}
theorem SI.wipe (I : SI K Z H σ env F) : ∀ vs : List Nat, SI K Z H (L2.wipe σ vs) (wipeE env vs) (wipeF F vs)
  | [] => I
  | v :: vs => (SI.wipe I vs).wipe1 v
theorem wipe_stp : Stp Z H F Z H (wipeF F vs) [] :=
  ⟨Same.refl _, fun _ _ h _ => h, fun b h => h.elim (fun z => by cases z) fun ⟨j, z⟩ => .inl ⟨j, wipeF_sub z⟩, fun _ h => .inl h, fun _ _ h => by cases h⟩
/-- behind a block: the wiped slots are as ahead of it -/
theorem SI.back {envc : Env} {Fc : Fp} (I : SI K Z H σ env F) (s : Stp Z H (wipeF F vs) Z' H' Fc G) (J : SI K Z' H' (L2.wipe σ vs) envc Fc) (hw : ∀ j, j ∈ vs → ∀ x, envc[j]? ≠ some (some x)) :
    ∃ Fr : Fp, SI K Z' H' σ (resE vs env envc) Fr ∧ (∀ j b, b ∈ Fr j → (j ∈ vs ∧ b ∈ F j) ∨ (j ∉ vs ∧ b ∈ Fc j)) := by
  have hl : envc.length = env.length := by rw [← J.len, wipe_length, I.len]
  refine ⟨fun j => if j ∈ vs then F j else Fc j, ⟨by rw [resE_len, I.len, hl], J.sub, fun j x e => ?_, fun j hj => ?_, fun j k b hjk hb => ?_⟩, fun j b hb => ?_⟩
  · by_cases q : j ∈ vs
    · have hjl : j < envc.length := by
        obtain ⟨h, _⟩ := List.getElem?_eq_some_iff.mp e
        rw [resE_len] at h; exact h
      rw [resE_in env vs envc j q hjl] at e
      have e1 : env[j]? = some (some x) := by
        cases z : env[j]? with
        | none => rw [z] at e; cases e
        | some o => rw [z] at e; exact e
      obtain ⟨v, e2, r⟩ := I.rep j x e1
      refine ⟨v, e2, ?_⟩
      show OR K Z' H' v x (if j ∈ vs then F j else Fc j)
      rw [if_pos q]
      refine s.keep r fun i b hb hc => ?_
      by_cases qi : i = j
      · subst qi; rw [wipeF_in q] at hc; cases hc
      · exact I.dis j i b (Ne.symm qi) hb (wipeF_sub hc)
    · rw [resE_out env vs envc j q] at e
      obtain ⟨v, e2, r⟩ := J.rep j x e
      rw [wipe_out q] at e2
      refine ⟨v, e2, ?_⟩
      show OR K Z' H' v x (if j ∈ vs then F j else Fc j)
      rw [if_neg q]
      exact r
  · show (if j ∈ vs then F j else Fc j) = []
    by_cases q : j ∈ vs
    · rw [if_pos q]
      refine I.non j fun x e => ?_
      have hjl : j < envc.length := by rw [hl]; exact (List.getElem?_eq_some_iff.mp e).1
      refine hj x ?_
      rw [resE_in env vs envc j q hjl, e]; rfl
    · rw [if_neg q]
      refine J.non j fun x e => hj x ?_
      rw [resE_out env vs envc j q]; exact e
  · have hb : b ∈ (if j ∈ vs then F j else Fc j) := hb
    show b ∉ (if k ∈ vs then F k else Fc k)
    have cross : ∀ i j', i ∈ vs → b ∈ F i → b ∉ Fc j' := fun i j' hi h1 h2 => by
      rcases s.gr b (.inr ⟨j', h2⟩) with ⟨m, z⟩ | z
      · by_cases qm : m = i
        · subst qm; rw [wipeF_in hi] at z; cases z
        · exact I.dis i m b (Ne.symm qm) h1 (wipeF_sub z)
      · obtain ⟨_, ws, e⟩ := I.own h1
        rw [e] at z; cases z
    by_cases qj : j ∈ vs
    · rw [if_pos qj] at hb
      by_cases qk : k ∈ vs
      · rw [if_pos qk]; exact I.dis j k b hjk hb
      · rw [if_neg qk]; exact cross j k qj hb
    · rw [if_neg qj] at hb
      by_cases qk : k ∈ vs
      · rw [if_pos qk]; exact fun z => cross k j qk z hb
      · rw [if_neg qk]; exact J.dis j k b hjk hb
  · have hb : b ∈ (if j ∈ vs then F j else Fc j) := hb
    by_cases q : j ∈ vs
    · rw [if_pos q] at hb; exact .inl ⟨q, hb⟩
    · rw [if_neg q] at hb; exact .inr ⟨q, hb⟩
theorem Stp.back {Fc Fr : Fp} (I : SI K Z H σ env F) (s : Stp Z H (wipeF F vs) Z' H' Fc G) (hF : ∀ j b, b ∈ Fr j → (j ∈ vs ∧ b ∈ F j) ∨ (j ∉ vs ∧ b ∈ Fc j)) : Stp Z H F Z' H' Fr G := by
  refine ⟨s.zz, fun b o e hn => s.fr b o e fun i z => hn i (wipeF_sub z), fun b hb => ?_, fun b hb => ?_, fun i b hb hc => ?_⟩
  · have g : (b ∈ G ∨ ∃ i, b ∈ Fc i) → (∃ i, b ∈ F i) ∨ H b = none := fun h => (s.gr b h).imp (fun ⟨i, z⟩ => ⟨i, wipeF_sub z⟩) id
    rcases hb with hb | ⟨i, hb⟩
    · exact g (.inl hb)
    · rcases hF i b hb with ⟨_, z⟩ | ⟨_, z⟩
      · exact .inl ⟨i, z⟩
      · exact g (.inr ⟨i, z⟩)
  · rcases s.gz b hb with z | ⟨i, z⟩ | z
    · exact .inl z
    · exact .inr (.inl ⟨i, wipeF_sub z⟩)
    · exact .inr (.inr z)
  · rcases hF i b hc with ⟨q, z⟩ | ⟨_, z⟩
    · rcases s.gr b (.inl hb) with ⟨m, y⟩ | y
      · by_cases qm : m = i
        · subst qm; rw [wipeF_in q] at y; cases y
        · exact I.dis i m b (Ne.symm qm) z (wipeF_sub y)
      · obtain ⟨_, ws, e⟩ := I.own z
        rw [e] at y; cases y
    · exact s.gd i b hb z
end
theorem wipeE_len (env : Env) : ∀ vs : List Nat, (wipeE env vs).length = env.length
  | [] => rfl
  | v :: vs => by unfold wipeE; rw [List.length_set, wipeE_len env vs]
theorem wipeE_in (env : Env) : ∀ (vs : List Nat) (j : Nat), j ∈ vs → ∀ x, (wipeE env vs)[j]? ≠ some (some x)
  | v :: vs, j, h, x => by
    unfold wipeE
    by_cases q : v = j
    · subst q
      by_cases hl : v < (wipeE env vs).length
      · rw [List.getElem?_set_self hl]; intro z; cases z
      · rw [List.getElem?_eq_none (by rw [List.length_set]; omega)]; intro z; cases z
    · rw [List.getElem?_set_ne q]
      refine wipeE_in env vs j ?_ x
      rcases List.mem_cons.mp h with z | z
      · exact absurd z.symm q
      · exact z
theorem wipe_same {σ σ' : St} {vs : List Nat} (hl : σ'.length = σ.length) (h : ∀ j, j ∉ vs → σ'[j]? = σ[j]?) : wipe σ' vs = wipe σ vs := by
  refine List.ext_getElem? fun j => ?_
  by_cases q : j ∈ vs
  · have w : ∀ (τ : St), j < τ.length → (wipe τ vs)[j]? = some none := fun τ ht => by
      cases z : (wipe τ vs)[j]? with
      | none => exact absurd (List.getElem?_eq_none_iff.mp z) (by rw [wipe_length]; omega)
      | some o =>
        cases o with
        | none => rfl
        | some y => exact absurd q (wipe_some z).2
    by_cases hj : j < σ.length
    · rw [w σ' (by omega), w σ hj]
    · rw [List.getElem?_eq_none (by rw [wipe_length]; omega), List.getElem?_eq_none (by rw [wipe_length]; omega)]
  · rw [wipe_out q, wipe_out q]
    exact h j q

/-! ### the comprehension -/
def compL (bd : PyData → Env → Option Env) (tc : M Bool) (me : M OV) (vs : List Nat) : List PyData → Env → Rs (List OV)
  | [], env => .ok [] env
  | d :: ds, env => match bd d env with
    | none => .bad
    | some e1 => match tc e1 with
      | .ok true e2 => (match me e2 with
        | .ok y e3 => (compL bd tc me vs ds (wipeE e3 vs)).bind fun ys e4 => .ok (y :: ys) e4
        | .ex _ _ => .bad
        | .bad => .bad)
      | .ok false e2 => compL bd tc me vs ds (wipeE e2 vs)
      | .ex _ _ => .bad
      | .bad => .bad
def compM (mi : M (List PyData)) (bd : PyData → Env → Option Env) (tc : M Bool) (me : M OV) (vs : List Nat) : M OV := fun env => (mi env).bind fun ds e1 => match compL bd tc me vs ds (wipeE e1 vs) with
  | .ok ys e2 => .ok (.ol ys) (resE vs e1 e2)
  | .ex _ _ => .bad
  | .bad => .bad
def wTs (S : Ctx) (ifs : List Expr) : TT := fun σ H Q => ∃ t : TT, (∀ X, S.has X → PTs X ifs t) ∧ t σ H Q
theorem pts_w {S : Ctx} {ifs : List Expr} {X : Cx} (h : S.has X) : PTs X ifs (wTs S ifs) := ⟨fun pins s σ H Q I ⟨t, p, q⟩ => (p X h).run pins s σ H Q I q⟩
def STs (S : Ctx) (ifs : List Expr) (m : M Bool) : Prop := ∀ (σ : St) (env : Env) (Z H : Hp) (F : Fp), SI S.K Z H σ env F → ∀ Q : Bool → Hp → Prop,
  (∀ b env', m env = .ok b env' → ∀ Z' H' F', SI S.K Z' H' σ env' F' → Stp Z H F Z' H' F' [] → Q b H') →
  KX S σ Z H F (m env) → m env ≠ .bad → wTs S ifs σ H Q
section
variable {S : Ctx} {c e elt tg iter : Expr} {ifs : List Expr} {pos : Pos}
theorem sts_nil : STs S [] (fun env => .ok true env) := fun σ env Z H F I Q k _ _ => ⟨tYes, fun X hX => pts_nil, k _ _ rfl Z H F I .refl⟩
theorem sts_one {m : M Bool} (h : SB S c m) : STs S [c] m := fun σ env Z H F I Q k kx kb => ⟨wT S c, fun X hX => pts_one (pt_w hX), h σ env Z H F I Q k kx kb⟩
def notSetE : Expr → Bool
  | .Set _ _ _ => false
  | _ => true
theorem folded {env : PySem.Env} (h : notSetE e = true) : ∀ x, foldedSetIterable e env x = pure x := fun x => by
  cases e <;> first | rfl | cases h
theorem ORs.one {v : V} {x : OV} (r : OR K Z H v x G) : ORs K Z H [v] [x] G := by
  have := ORs.cons r .nil (fun b _ z => by cases z)
  rwa [List.append_nil] at this
/-- what a turn of the block leaves -/
structure CI (S : Ctx) (Z1 H1 : Hp) (Fw : Fp) (σw : St) (vs : List Nat) (D : Addr) (Z H : Hp) (env : Env) (F : Fp) (ys : List OV) (G : List Addr) (n : Nat) : Prop where
  si : SI S.K Z H σw env F
  st : Stp Z1 H1 Fw Z H F (D :: G)
  zd : Z D = none
  ac : ∃ acc, H D = some (.lst acc) ∧ ORs S.K Z H acc ys G ∧ acc.length ≤ n
  nd : D ∉ G
  wp : ∀ j, j ∈ vs → ∀ x, env[j]? ≠ some (some x)
theorem lc_read {scope : Scope} {own : List (Str × Nat)} {mi : M (List PyData)} {bd : PyData → Env → Option Env} {tc : M Bool} {me : M OV} {js : List Nat} (hi : SIt S tg iter mi) (hjs : ∀ j, j ∈ js → j ∈ own.map (·.2))
    (hg : SG (S.blk scope) tg js bd) (ht : STs (S.blk scope) ifs tc) (he : SV (S.blk scope) elt me) {σ : St} {env : Env} {Z H : Hp} {F : Fp} (I : SI S.K Z H σ env F) {Q : VK} {β : Type} {mm : Rs β} {kk : OV → Env → Rs β} (hm : mm = (compM mi bd tc me (own.map (·.2)) env).bind kk)
    (k : ∀ r env', mm = kk r env' → ∀ v Z' H' F' G, SI S.K Z' H' σ env' F' → OR S.K Z' H' v r G → Stp Z H F Z' H' F' G → Q v H') (kx : KX S σ Z H F mm) (kb : mm ≠ .bad) :
    tLc (wI S tg iter) (wG (S.blk scope) tg) (wTs (S.blk scope) ifs) (wE (S.blk scope) elt) (own.map (·.2)) σ H Q := by
  generalize hvs : own.map (·.2) = vs at *
  have hm1 : mm = (mi env).bind fun ds e1 => (match compL bd tc me vs ds (wipeE e1 vs) with | .ok ys e2 => Rs.ok (OV.ol ys) (resE vs e1 e2) | .ex _ _ => .bad | .bad => .bad).bind kk := by
    rw [hm]; unfold compM; cases mi env <;> rfl
  refine hi.go I hm1 kx kb fun ds e1 J Z1 H1 F1 _ q1 I1 w1 s1 => ?_
  obtain ⟨G, Y, wk, hG, hY⟩ := w1.ex
  intro D hD
  have Iw := I1.wipe vs
  -- what is left to do from turn i on
  refine lc_it wk (fun i Hc => ∃ Zc envc Fc ys Gc, CI S Z1 H1 (wipeF F1 vs) (wipe σ vs) vs D Zc Hc envc Fc ys Gc i ∧
    ∃ zs e2, compL bd tc me vs (ds.drop i) envc = .ok zs e2 ∧ mm = kk (.ol (ys ++ zs)) (resE vs e1 e2)) ?_ ?_ ?_ ?_
  · -- the start
    obtain ⟨s2, I2, hz⟩ := Iw.freshO (o := .lst []) hD
    refine ⟨Z1, wipeE e1 vs, wipeF F1 vs, [], [], ⟨I2, s2, hz, ⟨[], upd_same, .nil, Nat.zero_le _⟩, (by simp), wipeE_in e1 vs⟩, ?_⟩
    rw [List.drop_zero]
    cases q : compL bd tc me vs ds (wipeE e1 vs) with
    | ok zs e2 => exact ⟨zs, e2, rfl, by rw [q1, q]; rfl⟩
    | ex x e2 => exact absurd (by rw [q1, q]; rfl) kb
    | bad => exact absurd (by rw [q1, q]; rfl) kb
  · rintro i Hc _ ⟨Zc, envc, Fc, ys, Gc, ci, _⟩
    exact hG Hc (ci.st.zz.trans ci.si.sub)
  · -- a turn
    rintro i x Hc H' hi ⟨Zc, envc, Fc, ys, Gc, ci, zs, e2, hc, hmm⟩ y
    have hlt : i < ds.length := hi
    obtain ⟨Z', ez, eh, exh, rx, gz⟩ := hY i Hc x H' ds[i] y (List.getElem?_eq_getElem hlt) Zc ci.st.zz ci.si.sub
    obtain ⟨acc, hacc, racc, hal⟩ := ci.ac
    rw [List.drop_eq_getElem_cons hlt] at hc
    -- the item's own objects are new
    have zd' : Z' D = none := by
      cases q : Z' D with
      | none => rfl
      | some o =>
        rcases gz D (by rw [q]; exact fun z => by cases z) with z | z
        · exact absurd ci.zd z
        · rw [hacc] at z; cases z
    have sA : Stp Zc Hc Fc Z' H' Fc [] := ⟨ez, fun b o e _ => exh b o e, fun b h => h.elim (fun z => by cases z) .inl, fun b hb => (gz b hb).imp id .inr, fun _ _ h => by cases h⟩
    have IA : SI S.K Z' H' (wipe σ vs) envc Fc := by
      refine ⟨ci.si.len, eh, fun j u e => ?_, ci.si.non, ci.si.dis⟩
      obtain ⟨v, ev, r⟩ := ci.si.rep j u e
      refine ⟨v, ev, r.mono ez (fun b hb => ?_) fun b hb => ?_⟩
      · obtain ⟨_, ws, q⟩ := r.own b hb
        rw [q]; exact exh b _ q
      · cases q : Z' b with
        | none => rfl
        | some o =>
          obtain ⟨z0, ws, qw⟩ := r.own b hb
          rcases gz b (by rw [q]; exact fun z => by cases z) with z | z
          · exact absurd z0 z
          · rw [qw] at z; cases z
    unfold compL at hc
    cases qb : bd ds[i] envc with
    | none => rw [qb] at hc; cases hc
    | some eb =>
      rw [qb] at hc
      refine hg (wipe σ vs) envc eb Z' H' Fc x ds[i] IA rx qb _ fun σb Fb Ib sb kb' lb => ?_
      have hwb : wipe σb vs = wipe (wipe σ vs) vs := wipe_same lb fun j hj => kb' j fun z => hj (hjs j z)
      have hww : wipe (wipe σ vs) vs = wipe σ vs := wipe_same (wipe_length _ _) fun j hj => wipe_out hj
      refine ⟨hwb.trans hww, ?_⟩
      have kt : KX (S.blk scope) σb Z' H' Fb (tc eb) := fun x' e' q => by
        have hc : (match tc eb with
          | .ok true e2 => (match me e2 with | .ok y e3 => (compL bd tc me vs (ds.drop (i + 1)) (wipeE e3 vs)).bind fun ys e4 => .ok (y :: ys) e4 | .ex _ _ => .bad | .bad => .bad)
          | .ok false e2 => compL bd tc me vs (ds.drop (i + 1)) (wipeE e2 vs)
          | .ex _ _ => .bad
          | .bad => Rs.bad) = .ok zs e2 := hc
        rw [q] at hc; cases hc
      have nt : tc eb ≠ .bad := fun q => by
        have hc : (match tc eb with
          | .ok true e2 => (match me e2 with | .ok y e3 => (compL bd tc me vs (ds.drop (i + 1)) (wipeE e3 vs)).bind fun ys e4 => .ok (y :: ys) e4 | .ex _ _ => .bad | .bad => .bad)
          | .ok false e2 => compL bd tc me vs (ds.drop (i + 1)) (wipeE e2 vs)
          | .ex _ _ => .bad
          | .bad => Rs.bad) = .ok zs e2 := hc
        rw [q] at hc; cases hc
      refine ht σb eb Z' H' Fb Ib _ (fun b et qt Zt Ht Ft It st => ?_) kt nt
      have hc : (match tc eb with
          | .ok true e2 => (match me e2 with | .ok y e3 => (compL bd tc me vs (ds.drop (i + 1)) (wipeE e3 vs)).bind fun ys e4 => .ok (y :: ys) e4 | .ex _ _ => .bad | .bad => .bad)
          | .ok false e2 => compL bd tc me vs (ds.drop (i + 1)) (wipeE e2 vs)
          | .ex _ _ => .bad
          | .bad => Rs.bad) = .ok zs e2 := hc
      rw [qt] at hc
      -- the list so far stands through any step of the turn
      have owned : ∀ b, b ∈ D :: Gc → ∃ o, Hc b = some o ∧ Zc b = none := fun b hb => by
        rcases List.mem_cons.mp hb with z | z
        · subst z; exact ⟨_, hacc, ci.zd⟩
        · obtain ⟨h1, ws, h2⟩ := racc.own b z; exact ⟨_, h2, h1⟩
      have upTo : ∀ {Zf Hf : Hp} {Ff : Fp} {Gf : List Addr}, Stp Zc Hc Fc Zf Hf Ff Gf → ∀ b, b ∈ D :: Gc → Hf b = Hc b ∧ Zf b = none ∧ (∀ j, b ∉ Ff j) ∧ b ∉ Gf := fun {Zf Hf Ff Gf} s b hb => by
        obtain ⟨o, ho, hz⟩ := owned b hb
        have nb : ∀ j, b ∉ Fc j := fun j z => ci.st.gd j b hb z
        refine ⟨by rw [ho]; exact s.fr b _ ho nb, ?_, fun j z => ?_, fun z => ?_⟩
        · cases q : Zf b with
          | none => rfl
          | some o =>
            rcases s.gz b (by rw [q]; exact fun z => by cases z) with z | ⟨j, z⟩ | z
            · exact absurd hz z
            · exact absurd z (nb j)
            · rw [ho] at z; cases z
        · rcases s.gr b (.inr ⟨j, z⟩) with ⟨m, y⟩ | y
          · exact nb m y
          · rw [ho] at y; cases y
        · rcases s.gr b (.inl z) with ⟨m, y⟩ | y
          · exact nb m y
          · rw [ho] at y; cases y
      have keepA : ∀ {Zf Hf : Hp} {Ff : Fp} {Gf : List Addr}, Stp Zc Hc Fc Zf Hf Ff Gf → ORs S.K Zf Hf acc ys Gc := fun {Zf Hf Ff Gf} s => racc.mono s.zz (fun b hb => (upTo s b (List.mem_cons_of_mem _ hb)).1) fun b hb => (upTo s b (List.mem_cons_of_mem _ hb)).2.1
      have hnG : ∀ b, b ∈ D :: Gc → Hc b ≠ none := fun b hb => by
        obtain ⟨o, ho, _⟩ := owned b hb
        rw [ho]; exact fun z => by cases z
      have wrap : ∀ {Zf Hf : Hp} {Ff : Fp} {ef : Env} {Gf : List Addr}, SI S.K Zf Hf σb ef Ff → Stp Zc Hc Fc Zf Hf Ff Gf → (∀ b, b ∈ Gf → Hf b ≠ none) → SI S.K Zf Hf (wipe σ vs) (wipeE ef vs) (wipeF Ff vs) ∧ Stp Zc Hc Fc Zf Hf (wipeF Ff vs) Gf := fun {Zf Hf Ff ef Gf} If sf hg => by
        have J := If.wipe vs
        rw [hwb, hww] at J
        have := sf.trans (wipe_stp (vs := vs)) hg
        rw [List.append_nil] at this
        exact ⟨J, this⟩
      have sT : Stp Zc Hc Fc Zt Ht Ft [] := (sA.trans0 sb).trans0 st
      cases b with
      | false =>
        rw [if_neg Bool.false_ne_true]
        obtain ⟨J, sJ⟩ := wrap It sT fun b hb => by cases hb
        obtain ⟨u1, u2, u3, _⟩ := upTo sJ D (by simp)
        rw [hacc] at u1
        refine ⟨Zt, _, _, ys, Gc, ⟨J, ?_, u2, ⟨acc, u1, keepA sJ, Nat.le_succ_of_le hal⟩, ci.nd, wipeE_in et vs⟩, zs, e2, hc, hmm⟩
        have := ci.st.trans sJ hnG
        simpa using this
      | true =>
        rw [if_pos rfl]
        have hc : (match me et with | .ok y e3 => (compL bd tc me vs (ds.drop (i + 1)) (wipeE e3 vs)).bind fun ys e4 => .ok (y :: ys) e4 | .ex _ _ => .bad | .bad => Rs.bad) = .ok zs e2 := hc
        have ke : KX (S.blk scope) σb Zt Ht Ft (me et) := fun x' e' q => by rw [q] at hc; cases hc
        have ne : me et ≠ .bad := fun q => by rw [q] at hc; cases hc
        refine he σb et Zt Ht Ft It _ (fun y' e3 qe v3 Z3 H3 F3 G3 I3 r3 s3 => ?_) ke ne
        rw [qe] at hc
        have hc : ((compL bd tc me vs (ds.drop (i + 1)) (wipeE e3 vs)).bind fun ys e4 => Rs.ok (y' :: ys) e4) = .ok zs e2 := hc
        obtain ⟨J, sJ⟩ := wrap I3 (sT.trans0 s3) fun b hb => (r3.nn b hb).2
        obtain ⟨u1, u2, u3, u4⟩ := upTo sJ D (by simp)
        rw [hacc] at u1
        have hlen : acc.length < sizeLine := Nat.lt_of_le_of_lt hal (Nat.lt_of_lt_of_le hlt w1.len)
        have dj : ∀ b, b ∈ Gc → b ∉ G3 := fun b hb => (upTo sJ b (List.mem_cons_of_mem _ hb)).2.2.2
        have ra : ORs S.K Z3 H3 (acc ++ [v3]) (ys ++ [y']) (Gc ++ G3) := (keepA sJ).append (.one r3) dj
        have nD : D ∉ Gc ++ G3 := fun z => (List.mem_append.mp z).elim ci.nd u4
        have ra' : ORs S.K Z3 (upd H3 D (.lst (acc ++ [v3]))) (acc ++ [v3]) (ys ++ [y']) (Gc ++ G3) := ra.mono (Same.refl _) (fun b hb => by rw [upd_ne fun z => nD (by rw [← z]; exact hb)]) fun b hb => (ra.own b hb).1
        refine ⟨acc, u1, hlen, Z3, wipeE e3 vs, wipeF F3 vs, ys ++ [y'], Gc ++ G3, ⟨?_, ?_, u2, ⟨acc ++ [v3], upd_same, ra', by rw [List.length_append]; simp; omega⟩, nD, wipeE_in e3 vs⟩, ?_⟩
        · refine ⟨J.len, fun b o e => ?_, fun j u e => ?_, J.non, J.dis⟩
          · rw [upd_ne fun z => by rw [z, u2] at e; cases e]; exact J.sub b o e
          · obtain ⟨v, ev, r⟩ := J.rep j u e
            exact ⟨v, ev, r.mono (Same.refl _) (fun b hb => by rw [upd_ne fun z => u3 j (by rw [← z]; exact hb)]) fun b hb => (r.own b hb).1⟩
        · have t : Stp Z1 H1 (wipeF F1 vs) Z3 H3 (wipeF F3 vs) (D :: (Gc ++ G3)) := ci.st.trans sJ hnG
          refine ⟨t.zz, fun b o e hn => ?_, t.gr, t.gz, t.gd⟩
          rw [upd_ne fun z => by rw [z] at e; rw [hD] at e; cases e]
          exact t.fr b o e hn
        · cases q : compL bd tc me vs (ds.drop (i + 1)) (wipeE e3 vs) with
          | ok zs' e4 =>
            rw [q] at hc
            cases hc
            exact ⟨zs', _, rfl, by rw [hmm]; simp⟩
          | ex x' e4 => rw [q] at hc; cases hc
          | bad => rw [q] at hc; cases hc
  · -- the end
    rintro Hc ⟨Zc, envc, Fc, ys, Gc, ci, zs, e2, hc, hmm⟩
    rw [List.drop_length] at hc
    cases hc
    obtain ⟨acc, hacc, racc, hal⟩ := ci.ac
    obtain ⟨Fr, Ir, hF⟩ := I1.back ci.st ci.si ci.wp
    have sR := Stp.back I1 ci.st hF
    rw [List.append_nil] at hmm
    exact k _ _ hmm _ Zc Hc Fr (D :: Gc) Ir (.ol ci.zd hacc (Nat.le_trans hal w1.len) racc ci.nd) (s1.trans0 sR)
theorem sv_lc {scope : Scope} {own : List (Str × Nat)} {mi : M (List PyData)} {bd : PyData → Env → Option Env} {tc : M Bool} {me : M OV} {js : List Nat} (hi : SIt S tg iter mi) (hN : S.N.Nodup) (ok : BlkOk S.N S.scope scope own) (hjs : ∀ j, j ∈ js → j ∈ own.map (·.2))
    (hg : SG (S.blk scope) tg js bd) (ht : STs (S.blk scope) ifs tc) (he : SV (S.blk scope) elt me) (hs : notSetE iter = true) : SV S (.ListComp elt [⟨tg, iter, ifs, 0⟩] scope pos) (compM mi bd tc me (own.map (·.2))) := .of fun σ env Z H F I Q mm hm k kx kb =>
  ⟨tLc (wI S tg iter) (wG (S.blk scope) tg) (wTs (S.blk scope) ifs) (wE (S.blk scope) elt) (own.map (·.2)), fun X hX => pe_lc hX.calm (by rw [hX.N]; exact hN) (pi_w hX) (by rw [hX.N, hX.scope]; exact ok)
    (fun s H C cl fp => pg_w (has_blk hX scope s H C cl fp)) (fun s H C cl fp => pts_w (has_blk hX scope s H C cl fp)) (fun s H C cl fp => pe_w (has_blk hX scope s H C cl fp)) (folded hs),
   lc_read hi hjs hg ht he I (hm.trans Rs.bind_idO.symm) k kx kb⟩
end
end Vi

set_option Elab.async false
set_option linter.all false
set_option maxRecDepth 100000
namespace Vi
open PySem L2

/-! ### a state's first slot and the others -/
section
variable {K : PySem.W.Frag} {Z Z' H H' : Hp} {σ : St} {env : Env} {F : Fp} {G : List Addr} {s : Option V} {o : Option OV}
theorem SI.tail (I : SI K Z H (s :: σ) (o :: env) F) : SI K Z H σ env (fun j => F (j + 1)) :=
  ⟨by have := I.len; simpa using this, I.sub, fun i x e => by obtain ⟨v, e1, r⟩ := I.rep (i + 1) x (by simpa using e); exact ⟨v, by simpa using e1, r⟩,
    fun i h => I.non (i + 1) fun x e => h x (by simpa using e), fun i j b hij hb => I.dis (i + 1) (j + 1) b (by omega) hb⟩
def consF (G : List Addr) (F : Fp) : Fp := fun j => match j with
  | 0 => G
  | j + 1 => F j
theorem SI.cons {v : V} {x : OV} (I : SI K Z H σ env F) (r : OR K Z H v x G) (d : ∀ j b, b ∈ G → b ∉ F j) : SI K Z H (some v :: σ) (some x :: env) (consF G F) := by
  refine ⟨by simp [I.len], I.sub, fun i y e => ?_, fun i h => ?_, fun i j b hij hb => ?_⟩
  · cases i with
    | zero =>
      have e : x = y := by simpa using e
      subst e; exact ⟨v, rfl, r⟩
    | succ i =>
      obtain ⟨u, e1, r1⟩ := I.rep i y (by simpa using e)
      exact ⟨u, by simpa using e1, r1⟩
  · cases i with
    | zero => exact absurd rfl (h x)
    | succ i => exact I.non i fun y e => h y (by simpa using e)
  · cases i with
    | zero =>
      cases j with
      | zero => exact absurd rfl hij
      | succ j => exact d j b hb
    | succ i =>
      cases j with
      | zero => exact fun z => d i b z hb
      | succ j => exact I.dis i j b (by omega) hb
theorem SI.consN (I : SI K Z H σ env F) (s : Option V) : SI K Z H (s :: σ) (none :: env) (consF [] F) := by
  refine ⟨by simp [I.len], I.sub, fun i y e => ?_, fun i h => ?_, fun i j b hij hb => ?_⟩
  · cases i with
    | zero => simp at e
    | succ i =>
      obtain ⟨u, e1, r1⟩ := I.rep i y (by simpa using e)
      exact ⟨u, by simpa using e1, r1⟩
  · cases i with
    | zero => rfl
    | succ i => exact I.non i fun y e => h y (by simpa using e)
  · cases i with
    | zero => cases hb
    | succ i =>
      cases j with
      | zero => exact fun z => by cases z
      | succ j => exact I.dis i j b (by omega) hb
theorem SI.nil (sub : Ex Z H) : SI K Z H [] [] (fun _ => []) := ⟨rfl, sub, fun i x e => by simp at e, fun _ _ => rfl, fun _ _ _ _ h => by cases h⟩
theorem set_self {σ : St} {i : Nat} {v : V} (e : σ[i]? = some (some v)) : σ.set i (some v) = σ := by
  obtain ⟨hs, he⟩ := List.getElem?_eq_some_iff.mp e
  rw [← he]; exact List.set_getElem_self hs
end

/-! ### arguments: data, or slots whose owned lists are lent -/
abbrev ArgM := Sum (M PyData) Nat
def argsM : List ArgM → M (List PyData)
  | [], env => .ok [] env
  | .inl m :: r, env => (m env).bind fun d e1 => (argsM r e1).bind fun ds e2 => .ok (d :: ds) e2
  | .inr i :: r, env => match env[i]? with
    | some (some _) => argsM r env
    | _ => .bad
def lent : OV → Bool
  | .fz _ => false
  | _ => true
def asm : List ArgM → List PyData → Env → Option (List OV × Env)
  | [], [], env => some ([], env)
  | .inl _ :: r, d :: ds, env => match asm r ds env with
    | some (os, e) => some (.fz d :: os, e)
    | none => none
  | .inr i :: r, ds, env => match env[i]? with
    | some (some x) => if lent x = true then (match asm r ds (env.set i none) with
      | some (os, e) => some (x :: os, e)
      | none => none) else none
    | _ => none
  | _, _, _ => none
def putB : List ArgM → Env → Env → Env
  | .inl _ :: r, _ :: outs, env => putB r outs env
  | .inr i :: r, o :: outs, env => (putB r outs env).set i o
  | _, _, env => env
def ARel (σ : St) (Z : Hp) : List ArgM → List V → List PyData → Prop
  | [], [], [] => True
  | .inl _ :: r, v :: vs, d :: ds => Rp Z v d ∧ ARel σ Z r vs ds
  | .inr i :: r, v :: vs, ds => σ[i]? = some (some v) ∧ ARel σ Z r vs ds
  | _, _, _ => False
theorem ARel.mono {σ : St} {Z Z' : Hp} (e : Ex Z Z') : ∀ {as : List ArgM} {vs : List V} {ds : List PyData}, ARel σ Z as vs ds → ARel σ Z' as vs ds
  | [], [], [], _ => trivial
  | .inl _ :: _, _ :: _, _ :: _, h => ⟨h.1.mono e, ARel.mono e h.2⟩
  | .inr _ :: r, _ :: vs, ds, h => ⟨h.1, ARel.mono e (as := r) (vs := vs) (ds := ds) h.2⟩
def SAr (S : Ctx) (es : List Expr) (as : List ArgM) : Prop := ∀ (σ : St) (env : Env) (Z H : Hp) (F : Fp), SI S.K Z H σ env F → ∀ Q : List V → Hp → Prop,
  (∀ ds env', argsM as env = .ok ds env' → ∀ vs Z' H' F', SI S.K Z' H' σ env' F' → ARel σ Z' as vs ds → Stp Z H F Z' H' F' [] → Q vs H') →
  KX S σ Z H F (argsM as env) → argsM as env ≠ .bad → wA S es σ H Q
section
variable {S : Ctx} {a b e : Expr} {es : List Expr} {ma mb : M PyData} {as : List ArgM} {pos : Pos}
theorem SAr.go (h : SAr S es as) {σ : St} {env : Env} {Z H : Hp} {F : Fp} {β : Type} (I : SI S.K Z H σ env F) {mm : Rs β} {kk : List PyData → Env → Rs β} (hm : mm = (argsM as env).bind kk) (kx : KX S σ Z H F mm) (kb : mm ≠ .bad) {Q : List V → Hp → Prop}
    (k : ∀ ds env1 vs Z1 H1 F1, argsM as env = .ok ds env1 → mm = kk ds env1 → SI S.K Z1 H1 σ env1 F1 → ARel σ Z1 as vs ds → Stp Z H F Z1 H1 F1 [] → Q vs H1) : wA S es σ H Q :=
  h σ env Z H F I Q (fun r env1 e v Z1 H1 F1 I1 r1 s1 => k r env1 v Z1 H1 F1 e (by rw [hm, e]; rfl) I1 r1 s1) (kx.bind hm) (bind_nb hm kb)
theorem sar_nil : SAr S [] [] := fun σ env Z H F I Q k kx kb => ⟨tNil, fun X hX => pa_nil, k [] env rfl [] Z H F I trivial .refl⟩
theorem sar_e (ha : SD S a ma) (hr : SAr S es as) (hn : notStar a = true) : SAr S (a :: es) (.inl ma :: as) := fun σ env Z H F I Q k kx kb => by
  obtain ⟨mm, hm⟩ : ∃ mm, mm = argsM (.inl ma :: as) env := ⟨_, rfl⟩
  rw [← hm] at kx kb
  refine ⟨tCons (wE S a) (wA S es), fun X hX => pa_cons (pe_w hX) (pa_w hX) (star_cons hn), ?_⟩
  refine ha.go I hm kx kb fun d e1 va Z1 H1 F1 _ q1 I1 r1 s1 => ?_
  refine hr.go I1 q1 (kx.step s1) kb fun ds e2 vs Z2 H2 F2 _ q2 I2 r2 s2 => ?_
  exact k _ _ (hm.symm.trans q2) (va :: vs) Z2 H2 F2 I2 ⟨r1.mono s2.zz, r2⟩ (s1.trans0 s2)
theorem sar_o {i : Nat} {x : Str} {p : Pos} (n : NameOk S i x) (hr : SAr S es as) : SAr S (.Name x p :: es) (.inr i :: as) := fun σ env Z H F I Q k kx kb => by
  obtain ⟨mm, hm⟩ : ∃ mm, mm = argsM (.inr i :: as) env := ⟨_, rfl⟩
  rw [← hm] at kx kb
  refine ⟨tCons (tVar i) (wA S es), fun X hX => pa_cons (n.pe hX) (pa_w hX) (star_cons rfl), ?_⟩
  cases q : env[i]? with
  | none => exact absurd (by rw [hm]; unfold argsM; rw [q]) kb
  | some o =>
    cases o with
    | none => exact absurd (by rw [hm]; unfold argsM; rw [q]) kb
    | some y =>
      obtain ⟨v, ev, _⟩ := I.rep i y q
      refine ⟨v, ev, ?_⟩
      have hm2 : mm = argsM as env := by rw [hm]; conv => lhs; unfold argsM; rw [q]
      refine hr.go I (kk := fun ds e => .ok ds e) (hm2.trans (by cases argsM as env <;> rfl)) kx kb fun ds e2 vs Z2 H2 F2 _ q2 I2 r2 s2 => ?_
      exact k _ _ (hm.symm.trans q2) (v :: vs) Z2 H2 F2 I2 ⟨ev, r2⟩ s2
/-- what is lent is taken out of the slots -/
theorem asm_ok {K : PySem.W.Frag} {Z H : Hp} {σ : St} : ∀ {as : List ArgM} {vs : List V} {ds : List PyData} {env env2 : Env} {F : Fp} {ovs : List OV}, SI K Z H σ env F → ARel σ Z as vs ds → asm as ds env = some (ovs, env2) →
    ∃ Fc F2 : Fp, SI K Z H (vs.map some) (ovs.map some) Fc ∧ SI K Z H σ env2 F2 ∧ (∀ i j b, b ∈ F2 i → b ∉ Fc j) ∧ (∀ j b, b ∈ Fc j → ∃ i, b ∈ F i) ∧ ∀ i b, b ∈ F2 i → b ∈ F i
  | [], [], [], env, env2, F, ovs, I, _, h => by
    cases h
    exact ⟨fun _ => [], F, .nil I.sub, I, fun _ _ _ _ z => (nomatch z), fun _ _ z => (nomatch z), fun _ _ z => z⟩
  | .inl m :: r, v :: vs, d :: ds, env, env2, F, ovs, I, A, h => by
    unfold asm at h
    cases q : asm r ds env with
    | none => rw [q] at h; cases h
    | some p =>
      obtain ⟨os, e⟩ := p
      rw [q] at h
      cases h
      obtain ⟨Fc, F2, Ic, I2, d1, d2, d3⟩ := asm_ok I A.2 q
      refine ⟨consF [] Fc, F2, Ic.cons (.fz A.1) (fun _ _ z => nomatch z), I2, fun i j b hb => ?_, fun j b hb => ?_, d3⟩
      · cases j with
        | zero => exact fun z => nomatch z
        | succ j => exact d1 i j b hb
      · cases j with
        | zero => exact nomatch hb
        | succ j => exact d2 j b hb
  | .inr i :: r, v :: vs, ds, env, env2, F, ovs, I, A, h => by
    unfold asm at h
    cases qe : env[i]? with
    | none => rw [qe] at h; cases h
    | some o =>
      cases o with
      | none => rw [qe] at h; cases h
      | some x =>
        rw [qe] at h
        have h : (if lent x = true then (match asm r ds (env.set i none) with | some (os, e) => some (x :: os, e) | none => none) else none) = some (ovs, env2) := h
        split at h
        · cases q : asm r ds (env.set i none) with
          | none => rw [q] at h; cases h
          | some p =>
            obtain ⟨os, e⟩ := p
            rw [q] at h
            cases h
            obtain ⟨v', ev, rx, dj⟩ := I.take qe
            have e0 : v' = v := by have z := A.1; rw [ev] at z; cases z; rfl
            subst e0
            obtain ⟨Fc, F2, Ic, I2, d1, d2, d3⟩ := asm_ok (I.gone i) A.2 q
            have dd : ∀ j b, b ∈ F i → b ∉ Fc j := fun j b hb hc => by
              obtain ⟨m, z⟩ := d2 j b hc
              exact dj m b hb z
            refine ⟨consF (F i) Fc, F2, Ic.cons rx dd, I2, fun k j b hb => ?_, fun j b hb => ?_, fun k b hb => ?_⟩
            · cases j with
              | zero => exact fun z => dj k b z (d3 k b hb)
              | succ j => exact d1 k j b hb
            · cases j with
              | zero => exact ⟨i, hb⟩
              | succ j =>
                obtain ⟨m, z⟩ := d2 j b hb
                by_cases qm : m = i
                · subst qm; rw [setF_same] at z; exact nomatch z
                · rw [setF_ne qm] at z; exact ⟨m, z⟩
            · have z := d3 k b hb
              by_cases qk : k = i
              · subst qk; rw [setF_same] at z; exact nomatch z
              · rw [setF_ne qk] at z; exact z
        · cases h
/-- what was lent comes back -/
theorem putB_ok {K : PySem.W.Frag} {Z H Z0 : Hp} {σ : St} : ∀ {as : List ArgM} {vs : List V} {ds : List PyData} {outs env2 : Env} {F' F2 : Fp}, SI K Z H (vs.map some) outs F' → SI K Z H σ env2 F2 → ARel σ Z0 as vs ds → (∀ i j b, b ∈ F2 i → b ∉ F' j) →
    ∃ F3 : Fp, SI K Z H σ (putB as outs env2) F3 ∧ ∀ i b, b ∈ F3 i → b ∈ F2 i ∨ ∃ j, b ∈ F' j
  | [], [], [], outs, env2, F', F2, Io, I2, _, _ => by
    unfold putB
    exact ⟨F2, I2, fun i b h => .inl h⟩
  | .inl m :: r, v :: vs, d :: ds, outs, env2, F', F2, Io, I2, A, dd => by
    cases outs with
    | nil => have := Io.len; simp at this
    | cons o outs =>
      obtain ⟨F3, I3, h3⟩ := putB_ok (as := r) (vs := vs) (ds := ds) Io.tail I2 A.2 fun i j b hb => dd i (j + 1) b hb
      exact ⟨F3, I3, fun i b hb => (h3 i b hb).imp id fun ⟨j, z⟩ => ⟨j + 1, z⟩⟩
  | .inr i :: r, v :: vs, ds, outs, env2, F', F2, Io, I2, A, dd => by
    cases outs with
    | nil => have := Io.len; simp at this
    | cons o outs =>
      obtain ⟨F3, I3, h3⟩ := putB_ok (as := r) (vs := vs) (ds := ds) Io.tail I2 A.2 fun i j b hb => dd i (j + 1) b hb
      show ∃ F3, SI K Z H σ ((putB r outs env2).set i o) F3 ∧ _
      cases o with
      | none =>
        refine ⟨setF F3 i [], I3.gone i, fun k b hb => ?_⟩
        by_cases qk : k = i
        · subst qk; rw [setF_same] at hb; exact nomatch hb
        · rw [setF_ne qk] at hb
          exact (h3 k b hb).imp id fun ⟨j, z⟩ => ⟨j + 1, z⟩
      | some x =>
        obtain ⟨v', ev, rx⟩ := Io.rep 0 x rfl
        have e0 : v' = v := by simpa using ev.symm
        subst e0
        have hi : i < (putB r outs env2).length := by rw [← I3.len]; exact (List.getElem?_eq_some_iff.mp A.1).1
        have dj : ∀ j b, b ∈ F' 0 → b ∉ F3 j := fun j b hb hc => by
          rcases h3 j b hc with z | ⟨m, z⟩
          · exact dd j 0 b z hb
          · exact Io.dis 0 (m + 1) b (by omega) hb z
        have J := I3.put hi rx dj
        rw [set_self A.1] at J
        refine ⟨setF F3 i (F' 0), J, fun k b hb => ?_⟩
        by_cases qk : k = i
        · subst qk; rw [setF_same] at hb; exact .inr ⟨0, hb⟩
        · rw [setF_ne qk] at hb
          exact (h3 k b hb).imp id fun ⟨j, z⟩ => ⟨j + 1, z⟩

/-! ### defs -/
abbrev Den := List OV → Rs OV
def spOf (K : PySem.W.Frag) (exr : Exn → Value → Option Addr → Hp → Prop) (np : Nat) (den : Den) : Sp := fun vs H Q E => vs.length = np ∧ ∃ (Z : Hp) (ovs : List OV) (F : Fp), SI K Z H (vs.map some) (ovs.map some) F ∧
  (∀ r outs, den ovs = .ok r outs → ∀ v Z' H' F' G, SI K Z' H' (vs.map some) outs F' → OR K Z' H' v r G → Stp Z H F Z' H' F' G → Q v H') ∧
  (∀ x outs, den ovs = .ex x outs → ∀ Z' H' F' cls d, SI K Z' H' (vs.map some) outs F' → Stp Z H F Z' H' F' [] → exr x cls d H' → E cls d H') ∧ den ovs ≠ .bad
/-- the def x of the module stands and is worth den -/
def FnI (S : Ctx) (x : Str) (np : Nat) (den : Den) : Prop := ∃ (f : Addr) (fd : FuncData) (ps : List Str) (kk : Nat), S.mg x = some (.ref f) ∧ PySem.W.keepIn S.K (.ref f) = true ∧ Binds S.K fd ps [] ∧ ps.length = np ∧ kk ≤ S.k ∧
  FnOk S.P S.w S.K S.mg S.base (L2N.CX S.P S.w) kk f fd ps (spOf S.K S.exr np den)
def callD (as : List ArgM) (den : Den) : M OV := fun env => (argsM as env).bind fun ds e1 => match asm as ds e1 with
  | none => .bad
  | some (ovs, e2) => match den ovs with
    | .ok r outs => .ok r (putB as outs e2)
    | .ex x outs => .ex x (putB as outs e2)
    | .bad => .bad
theorem ARel.length {σ : St} {Z : Hp} : ∀ {as : List ArgM} {vs : List V} {ds : List PyData}, ARel σ Z as vs ds → vs.length = as.length
  | [], [], [], _ => rfl
  | .inl _ :: _, _ :: _, _ :: _, h => by rw [List.length_cons, List.length_cons, ARel.length h.2]
  | .inr _ :: r, _ :: vs, ds, h => by rw [List.length_cons, List.length_cons, ARel.length (as := r) (vs := vs) (ds := ds) h.2]
theorem plain_any {env : PySem.Env} (h : es.all notStar = true) : (backTo pos (starEach es env)).any (·.1) = false := by
  induction es with
  | nil => rfl
  | cons t ts ih =>
    rw [List.all_cons, Bool.and_eq_true] at h
    rw [star_cons h.1]
    show (false || (backTo pos (starEach ts env)).any (·.1)) = false
    rw [ih h.2]; rfl
theorem sv_call {x : Str} {den : Den} {p : Pos} (hf : FnI S x as.length den) (hg : S.scope.names.lookup x = some .globalImplicit) (hd : (x == ("__debug__" : Str)) = false) (ha : SAr S (e :: es) as) (hn : (e :: es).all notStar = true) :
    SV S (.Call (.Name x p) (e :: es) [] pos) (callD as den) := .of fun σ env Z H F I Q mm hm k kx kb => by
  obtain ⟨f, fd, ps, kk, hm1, hk1, hb1, hl1, hle, hok⟩ := hf
  rw [List.all_cons, Bool.and_eq_true] at hn
  refine ⟨tCallS (spOf S.K S.exr as.length den) (WE S.W) (wA S (e :: es)), fun X hX => ?_, ?_⟩
  · have hok' : FnOk X.prog X.w X.K X.mg X.base (L2N.CX X.prog X.w) kk f fd ps (spOf S.K S.exr as.length den) := by
      rw [hX.prog, hX.w, hX.K, hX.mg, hX.base]; exact hok
    exact pe_callS hok' (hX.room.mono hle) (by show X.env.scope.names.lookup x = _; rw [hX.scope]; exact hg) (by rw [hX.mg]; exact hm1) (by rw [hX.K]; exact hk1) (by rw [hX.K]; exact hb1) (fun σ => L2N.passAt hX.takes σ) (pa_w hX) hd (star_cons hn.1) (plain_any hn.2)
  refine ha.go I hm kx kb fun ds e1 vs Z1 H1 F1 _ q1 I1 r1 s1 => ?_
  cases qa : asm as ds e1 with
  | none => rw [qa] at q1; exact absurd q1 kb
  | some p =>
    obtain ⟨ovs, e2⟩ := p
    rw [qa] at q1
    have q1 : mm = (match den ovs with | .ok r outs => .ok r (putB as outs e2) | .ex x outs => .ex x (putB as outs e2) | .bad => .bad) := q1
    obtain ⟨Fc, F2, Ic, I2, d1, d2, d3⟩ := asm_ok I1 r1 qa
    -- behind the call
    have after : ∀ {outs : Env} {Z' H' : Hp} {F' : Fp} {G : List Addr}, SI S.K Z' H' (vs.map some) outs F' → Stp Z1 H1 Fc Z' H' F' G → (∀ b, b ∈ G → Z' b = none ∧ H' b ≠ none) → ∃ F3 : Fp, SI S.K Z' H' σ (putB as outs e2) F3 ∧ Stp Z1 H1 F1 Z' H' F3 G := fun {outs Z' H' F' G} Io so hG => by
      have J2 : SI S.K Z' H' σ e2 F2 := SI.frame so I2 d1 Io.sub
      have dd : ∀ i j b, b ∈ F2 i → b ∉ F' j := fun i j b hb hc => by
        rcases so.gr b (.inr ⟨j, hc⟩) with ⟨m, z⟩ | z
        · exact d1 i m b hb z
        · obtain ⟨_, ws, q⟩ := I2.own hb
          rw [q] at z; cases z
      obtain ⟨F3, I3, h3⟩ := putB_ok (Z0 := Z1) (ds := ds) Io J2 r1 dd
      refine ⟨F3, I3, so.zz, fun b o e hn => so.fr b o e fun j z => ?_, fun b hb => ?_, fun b hb => ?_, fun i b hb hc => ?_⟩
      · obtain ⟨m, y⟩ := d2 j b z
        exact hn m y
      · have lift : ((∃ j, b ∈ Fc j) ∨ H1 b = none) → (∃ i, b ∈ F1 i) ∨ H1 b = none := fun z => z.imp (fun ⟨j, y⟩ => d2 j b y) id
        rcases hb with hb | ⟨i, hb⟩
        · exact lift (so.gr b (.inl hb))
        · rcases h3 i b hb with z | ⟨j, z⟩
          · exact .inl ⟨i, d3 i b z⟩
          · exact lift (so.gr b (.inr ⟨j, z⟩))
      · rcases so.gz b hb with z | ⟨j, z⟩ | z
        · exact .inl z
        · exact .inr (.inl (d2 j b z))
        · exact .inr (.inr z)
      · rcases h3 i b hc with z | ⟨j, z⟩
        · rcases so.gr b (.inl hb) with ⟨m, y⟩ | y
          · exact d1 i m b z y
          · obtain ⟨_, ws, q⟩ := I2.own z
            rw [q] at y; cases y
        · exact so.gd j b hb z
    refine ⟨r1.length, Z1, ovs, Fc, Ic, fun r outs qd v Z' H' F' G Io ro so => ?_, fun x' outs qd Z' H' F' cls d Io so hx => ?_, fun qd => ?_⟩
    · rw [qd] at q1
      obtain ⟨F3, I3, s3⟩ := after Io so ro.nn
      exact k _ _ q1 v Z' H' F3 G I3 ro (s1.trans0 s3)
    · rw [qd] at q1
      obtain ⟨F3, I3, s3⟩ := after Io so (fun _ z => nomatch z)
      exact kx x' _ q1 Z' H' F3 cls d I3 (s1.trans0 s3) hx
    · rw [qd] at q1
      exact kb q1
end
end Vi

set_option Elab.async false
set_option linter.all false
set_option maxRecDepth 100000
namespace Vi
open PySem L2

/-! ### a part that changes nothing, read with what is owned frozen for a while -/
def closedD : PyData → Bool
  | .none => true
  | .bool _ => true
  | .int _ => true
  | .str _ => true
  | _ => false
mutual
def closed : OV → Bool
  | .fz d => closedD d
  | .ol xs => closeds xs
  | .sc _ => false
  | .rg _ _ => false
def closeds : List OV → Bool
  | [] => true
  | x :: xs => closed x && closeds xs
end
section
variable {K : PySem.W.Frag} {Z Z' H H' : Hp}
theorem Rp.closed {v : V} {d : PyData} (r : Rp Z v d) (h : closedD d = true) : Rp Z' v d := by
  cases r with
  | non => exact .non
  | bl b => exact .bl b
  | int i => exact .int i
  | str x g => exact .str x g
  | lst _ _ _ => cases h
  | tup _ _ _ => cases h
mutual
theorem OR.closed (e : ∀ b, Z b = none → Z' b = none) : ∀ {v : V} {x : OV} {F : List Addr}, OR K Z H v x F → Vi.closed x = true → OR K Z' H v x F
  | _, _, _, .fz r, h => .fz (r.closed h)
  | _, _, _, .ol hz ha hl r hn, h => .ol (e _ hz) ha hl (ORs.closed e r h) hn
  | _, _, _, .sc _, h => by cases h
  | _, _, _, .rg _, h => by cases h
theorem ORs.closed (e : ∀ b, Z b = none → Z' b = none) : ∀ {vs : List V} {xs : List OV} {F : List Addr}, ORs K Z H vs xs F → closeds xs = true → ORs K Z' H vs xs F
  | _, _, _, .nil, _ => .nil
  | _, _, _, .cons r t d, h => by
    unfold closeds at h
    rw [Bool.and_eq_true] at h
    exact .cons (OR.closed e r h.1) (ORs.closed e t h.2) d
end
end
def frzE : List Nat → Env → Env
  | [], env => env
  | i :: vs, env => match env[i]? with
    | some (some (.ol xs)) => (match dsOf xs with
      | some ds => frzE vs (env.set i (some (.fz (.list ds))))
      | none => frzE vs env)
    | _ => frzE vs env
def killE : List Nat → Env → Env
  | [], env => env
  | i :: ks, env => killE ks (env.set i none)
def noOwn : Env → Bool
  | [] => true
  | some (.ol _) :: _ => false
  | _ :: env => noOwn env
def bwM (vs ks : List Nat) (m : M OV) : M OV := fun env => if noOwn (killE ks (frzE vs env)) = true then (match m (killE ks (frzE vs env)) with
    | .ok r _ => if closed r = true then .ok r env else .ok r (frzE vs env)
    | .ex x _ => .ex x (frzE vs env)
    | .bad => .bad) else .bad
section
variable {S : Ctx} {e : Expr} {es : List Expr}
theorem noOwn_at : ∀ {env : Env} {i : Nat} {x : OV}, noOwn env = true → env[i]? = some (some x) → ∀ xs, x ≠ .ol xs
  | o :: env, 0, x, h, e, xs => by
    have e : o = some x := by simpa using e
    subst e
    intro z; subst z; cases h
  | o :: env, i + 1, x, h, e, xs => by
    refine noOwn_at (env := env) (i := i) ?_ (by simpa using e) xs
    cases o with
    | none => exact h
    | some y => cases y <;> first | exact h | cases h
theorem SI.noOwn {K : PySem.W.Frag} {Z H : Hp} {σ : St} {env : Env} {F : Fp} (I : SI K Z H σ env F) (h : noOwn env = true) (i : Nat) : F i = [] := by
  cases q : env[i]? with
  | none => exact I.non i fun x e => by rw [q] at e; cases e
  | some o =>
    cases o with
    | none => exact I.non i fun x e => by rw [q] at e; cases e
    | some x =>
      obtain ⟨v, _, r⟩ := I.rep i x q
      generalize hG : F i = G at r
      cases r with
      | fz _ => rfl
      | sc _ => rfl
      | rg _ => rfl
      | ol _ _ _ _ _ => exact absurd rfl (noOwn_at h q _)
theorem frzE_ok : ∀ (vs : List Nat) {σ : St} {env : Env} {Z H : Hp} {F : Fp}, SI S.K Z H σ env F → ∃ Z' F', SI S.K Z' H σ (frzE vs env) F' ∧ Stp Z H F Z' H F' []
  | [], σ, env, Z, H, F, I => ⟨Z, F, I, .refl⟩
  | i :: vs, σ, env, Z, H, F, I => by
    unfold frzE
    cases q : env[i]? with
    | none => exact frzE_ok vs I
    | some o =>
      cases o with
      | none => exact frzE_ok vs I
      | some x =>
        cases x with
        | fz d => exact frzE_ok vs I
        | sc ns => exact frzE_ok vs I
        | rg i j => exact frzE_ok vs I
        | ol xs =>
          cases qd : dsOf xs with
          | none => simp only [qd]; exact frzE_ok vs I
          | some ds =>
            simp only [qd]
            obtain ⟨v, Z1, _, _, I1, s1⟩ := I.frzAt q qd
            obtain ⟨Z2, F2, I2, s2⟩ := frzE_ok vs I1
            exact ⟨Z2, F2, I2, s1.trans0 s2⟩
theorem killE_ok {K : PySem.W.Frag} : ∀ (ks : List Nat) {σ : St} {env : Env} {Z H : Hp} {F : Fp}, SI K Z H σ env F → ∃ F', SI K Z H σ (killE ks env) F'
  | [], σ, env, Z, H, F, I => ⟨F, I⟩
  | i :: ks, σ, env, Z, H, F, I => killE_ok ks (I.gone i)
/-- what a step over a view without owners leaves of the real state -/
theorem view_back {K : PySem.W.Frag} {σ : St} {env envF : Env} {Z Z1 Z' H H' : Hp} {F F1 F2 F'' : Fp} {G : List Addr} (I : SI K Z H σ env F) (I1 : SI K Z1 H σ envF F1) (s1 : Stp Z H F Z1 H F1 []) (no : ∀ i, F2 i = []) (s : Stp Z1 H F2 Z' H' F'' G) (sub : Ex Z' H') :
    (SI K Z H' σ env F ∧ Stp Z H F Z H' F G) ∧ (SI K Z' H' σ envF F1 ∧ Stp Z H F Z' H' F1 G) := by
  have eh : Ex H H' := fun b o h => s.fr b o h fun i z => by rw [no i] at z; cases z
  have gN : ∀ b, b ∈ G → H b = none := fun b hb => (s.gr b (.inl hb)).elim (fun ⟨i, z⟩ => by rw [no i] at z; cases z) id
  have gZ : ∀ b, Z' b ≠ none → Z1 b ≠ none ∨ H b = none := fun b hb => (s.gz b hb).imp id fun z => z.elim (fun ⟨i, y⟩ => by rw [no i] at y; cases y) id
  obtain ⟨s0, I0⟩ := I.grow eh
  have gd : ∀ i b, b ∈ G → b ∉ F i := fun i b hb hc => by
    obtain ⟨_, ws, q⟩ := I.own hc
    rw [gN b hb] at q; cases q
  have gd1 : ∀ i b, b ∈ G → b ∉ F1 i := fun i b hb hc => by
    obtain ⟨_, ws, q⟩ := I1.own hc
    rw [gN b hb] at q; cases q
  refine ⟨⟨I0, s0.zz, s0.fr, fun b h => h.elim (fun z => .inr (gN b z)) fun z => .inl z, s0.gz, gd⟩, SI.frame s I1 (fun i j b _ hc => by rw [no j] at hc; cases hc) sub, ?_⟩
  refine s1.trans0 ⟨s.zz, fun b o h _ => eh b o h, fun b h => h.elim (fun z => .inr (gN b z)) .inl, fun b hb => (gZ b hb).imp id .inr, gd1⟩
theorem sv_bw {m : M OV} (vs ks : List Nat) (h : SV S e m) : SV S e (bwM vs ks m) := .of fun σ env Z H F I Q mm hm k kx kb => by
  unfold bwM at hm
  split at hm
  · rename_i hno
    obtain ⟨Z1, F1, I1, s1⟩ := frzE_ok vs I
    obtain ⟨F2, I2⟩ := killE_ok ks I1
    have no := I2.noOwn hno
    refine h σ _ Z1 H F2 I2 Q (fun r env' q v Z' H' F'' G I' r' s => ?_) (fun x env' q Z' H' F'' cls d I' s hx => ?_) fun q => kb (by rw [hm, q])
    · rw [q] at hm
      have hm : mm = (if closed r = true then .ok r env else .ok r (frzE vs env)) := hm
      obtain ⟨⟨A1, A2⟩, B1, B2⟩ := view_back I I1 s1 no s I'.sub
      split at hm
      · rename_i hc
        exact k _ _ hm v Z H' F G A1 (r'.closed (fun b z => by
          cases q : Z b with
          | none => rfl
          | some o => rw [s.zz b o (s1.zz b o q)] at z; cases z) hc) A2
      · exact k _ _ hm v Z' H' F1 G B1 r' B2
    · rw [q] at hm
      obtain ⟨_, B1, B2⟩ := view_back I I1 s1 no s I'.sub
      exact kx x _ hm Z' H' F1 cls d B1 B2 hx
  · exact absurd hm kb
end

/-! ### statements -/
inductive So where
  | nx (env : Env)
  | ret (r : OV) (env : Env)
  | ex (x : Exn) (env : Env)
  | bad
abbrev MS := Env → So
def So.bind (m : So) (k : Env → So) : So := match m with
  | .nx e => k e
  | .ret r e => .ret r e
  | .ex x e => .ex x e
  | .bad => .bad
def Rs.so {α : Type} (m : Rs α) (k : α → Env → So) : So := match m with
  | .ok a e => k a e
  | .ex x e => .ex x e
  | .bad => .bad
/-- the lent parameters' slots are as they were -/
def Kp (own : List Nat) (σ σ' : St) : Prop := ∀ i, i ∈ own → σ'[i]? = σ[i]?
theorem Kp.refl {own : List Nat} {σ : St} : Kp own σ σ := fun _ _ => rfl
theorem Kp.trans {own : List Nat} {σ σ1 σ2 : St} (a : Kp own σ σ1) (b : Kp own σ1 σ2) : Kp own σ σ2 := fun i h => (b i h).trans (a i h)
def KS (S : Ctx) (own : List Nat) (σ : St) (Z H : Hp) (F : Fp) (mm : So) : Prop := ∀ x env', mm = .ex x env' → ∀ σ' Z' H' F' cls d, SI S.K Z' H' σ' env' F' → Stp Z H F Z' H' F' [] → Kp own σ σ' → S.exr x cls d H' → S.W cls d σ' H'
section
variable {S : Ctx} {own : List Nat} {σ σ1 : St} {env : Env} {Z H Z1 H1 : Hp} {F F1 : Fp}
theorem KS.step {mm : So} (k : KS S own σ Z H F mm) (s : Stp Z H F Z1 H1 F1 []) (kp : Kp own σ σ1) : KS S own σ1 Z1 H1 F1 mm :=
  fun x env' e σ' Z' H' F' cls d I t kq q => k x env' e σ' Z' H' F' cls d I (s.trans0 t) (kp.trans kq) q
theorem KS.kx {mm : So} {α : Type} {nn : Rs α} (k : KS S own σ Z H F mm) (h : ∀ x e, nn = .ex x e → mm = .ex x e) : KX S σ Z H F nn :=
  fun x env' e Z' H' F' cls d I t q => k x env' (h x env' e) σ Z' H' F' cls d I t .refl q
theorem KS.rs {mm : So} {α : Type} {nn : Rs α} {kk : α → Env → So} (k : KS S own σ Z H F mm) (h : mm = nn.so kk) : KX S σ Z H F nn := k.kx fun x e q => by rw [h, q]; rfl
theorem so_nb {mm : So} {α : Type} {nn : Rs α} {kk : α → Env → So} (h : mm = nn.so kk) (kb : mm ≠ .bad) : nn ≠ .bad := fun z => kb (by rw [h, z]; rfl)
/-- what is wanted behind a statement that does mm -/
structure Wn (S : Ctx) (own : List Nat) (σ : St) (Z H : Hp) (F : Fp) (D : Ends) (mm : So) : Prop where
  nx : ∀ env', mm = .nx env' → ∀ σ' Z' H' F', SI S.K Z' H' σ' env' F' → Stp Z H F Z' H' F' [] → Kp own σ σ' → D.nx σ' H'
  rt : ∀ r env', mm = .ret r env' → ∀ v σ' Z' H' F' G, SI S.K Z' H' σ' env' F' → OR S.K Z' H' v r G → Stp Z H F Z' H' F' G → Kp own σ σ' → D.rt v H'
  ex : KS S own σ Z H F mm
  nb : mm ≠ .bad
theorem Wn.step {D : Ends} {mm : So} (w : Wn S own σ Z H F D mm) (s : Stp Z H F Z1 H1 F1 []) (kp : Kp own σ σ1) : Wn S own σ1 Z1 H1 F1 D mm :=
  ⟨fun env' e σ' Z' H' F' I t kq => w.nx env' e σ' Z' H' F' I (s.trans0 t) (kp.trans kq), fun r env' e v σ' Z' H' F' G I o t kq => w.rt r env' e v σ' Z' H' F' G I o (s.trans0 t) (kp.trans kq), w.ex.step s kp, w.nb⟩
theorem Wn.eq {D : Ends} {mm nn : So} (w : Wn S own σ Z H F D mm) (h : mm = nn) : Wn S own σ Z H F D nn := h ▸ w
end
def SS (S : Ctx) (own : List Nat) (st : Stmt) (m : MS) : Prop := ∀ (σ : St) (env : Env) (Z H : Hp) (F : Fp), SI S.K Z H σ env F → ∀ D : Ends, Wn S own σ Z H F D (m env) → wS S st D σ H
def SSs (S : Ctx) (own : List Nat) (sts : List Stmt) (m : MS) : Prop := ∀ (σ : St) (env : Env) (Z H : Hp) (F : Fp), SI S.K Z H σ env F → ∀ D : Ends, Wn S own σ Z H F D (m env) → wSs S sts D σ H
section
variable {S : Ctx} {own : List Nat} {st : Stmt} {sts : List Stmt} {e a b c tg iter : Expr} {m ms : MS} {pos : Pos} {σ : St} {env : Env} {Z H : Hp} {F : Fp}
theorem SV.so {m : M OV} (h : SV S e m) (I : SI S.K Z H σ env F) {mm : So} {kk : OV → Env → So} {D : Ends} (w : Wn S own σ Z H F D mm) (hm : mm = (m env).so kk) {Q : VK}
    (k : ∀ r env1 v Z1 H1 F1 G, m env = .ok r env1 → mm = kk r env1 → SI S.K Z1 H1 σ env1 F1 → OR S.K Z1 H1 v r G → Stp Z H F Z1 H1 F1 G → Q v H1) : wE S e σ H Q :=
  h σ env Z H F I Q (fun r env1 e v Z1 H1 F1 G I1 r1 s1 => k r env1 v Z1 H1 F1 G e (by rw [hm, e]; rfl) I1 r1 s1) (w.ex.rs hm) (so_nb hm w.nb)
theorem SD.so {m : M PyData} (h : SD S e m) (I : SI S.K Z H σ env F) {mm : So} {kk : PyData → Env → So} {D : Ends} (w : Wn S own σ Z H F D mm) (hm : mm = (m env).so kk) {Q : VK}
    (k : ∀ d env1 v Z1 H1 F1, m env = .ok d env1 → mm = kk d env1 → SI S.K Z1 H1 σ env1 F1 → Rp Z1 v d → Stp Z H F Z1 H1 F1 [] → Q v H1) : wE S e σ H Q :=
  h σ env Z H F I Q (fun r env1 e v Z1 H1 F1 I1 r1 s1 => k r env1 v Z1 H1 F1 e (by rw [hm, e]; rfl) I1 r1 s1) (w.ex.rs hm) (so_nb hm w.nb)
theorem SB.so {m : M Bool} (h : SB S e m) (I : SI S.K Z H σ env F) {mm : So} {kk : Bool → Env → So} {D : Ends} (w : Wn S own σ Z H F D mm) (hm : mm = (m env).so kk) {Q : Bool → Hp → Prop}
    (k : ∀ d env1 Z1 H1 F1, m env = .ok d env1 → mm = kk d env1 → SI S.K Z1 H1 σ env1 F1 → Stp Z H F Z1 H1 F1 [] → Q d H1) : wT S e σ H Q :=
  h σ env Z H F I Q (fun r env1 e Z1 H1 F1 I1 s1 => k r env1 Z1 H1 F1 e (by rw [hm, e]; rfl) I1 s1) (w.ex.rs hm) (so_nb hm w.nb)

/-! blocks -/
theorem sss_nil : SSs S own [] (fun env => .nx env) := fun σ env Z H F I D w => ⟨tNext, fun X hX => pss_nil, w.nx env rfl σ Z H F I .refl .refl⟩
theorem sss_cons (h1 : SS S own st m) (h2 : SSs S own sts ms) : SSs S own (st :: sts) (fun env => (m env).bind ms) := fun σ env Z H F I D w => by
  refine ⟨tSeq (wS S st) (wSs S sts), fun X hX => pss_cons (ps_w hX) (pss_w hX), ?_⟩
  refine h1 σ env Z H F I { D with nx := wSs S sts D } ⟨fun env1 q σ1 Z1 H1 F1 I1 s1 k1 => ?_, fun r env' q v σ' Z' H' F' G I' o s' k' => w.rt r env' (by simp [So.bind, q]) v σ' Z' H' F' G I' o s' k', fun x env' q => w.ex x env' (by simp [So.bind, q]), fun q => w.nb (by simp [So.bind, q])⟩
  exact h2 σ1 env1 Z1 H1 F1 I1 D ((w.step s1 k1).eq (by simp [So.bind, q]))
theorem ss_pass : SS S own (.Pass pos) (fun env => .nx env) := fun σ env Z H F I D w => ⟨tNext, fun X hX => ps_pass, w.nx env rfl σ Z H F I .refl .refl⟩
/-! name = e -/
def asgM (own : List Nat) (i : Nat) (m : M OV) : MS := fun env => if own.contains i = true then .bad else (m env).so fun r e1 => if i < e1.length then .nx (e1.set i (some r)) else .bad
theorem kp_set {σ : St} {i : Nat} {o : Option V} (h : own.contains i = false) : Kp own σ (σ.set i o) := fun j hj => by
  rw [List.getElem?_set_ne]
  intro z; subst z
  rw [List.contains_iff_mem.mpr hj] at h; cases h
theorem store_stp {K : PySem.W.Frag} {Z H Z1 H1 : Hp} {F F1 : Fp} {G : List Addr} {i : Nat} (s : Stp Z H F Z1 H1 F1 G) : Stp Z H F Z1 H1 (setF F1 i G) [] := by
  refine ⟨s.zz, s.fr, fun b h => h.elim (fun z => by cases z) fun ⟨j, z⟩ => ?_, s.gz, fun _ _ h => by cases h⟩
  by_cases q : j = i
  · subst q; rw [setF_same] at z; exact s.gr b (.inl z)
  · rw [setF_ne q] at z; exact s.gr b (.inr ⟨j, z⟩)
def notComp : Expr → Bool
  | .ListComp _ _ _ _ => false
  | .SetComp _ _ _ _ => false
  | .DictComp _ _ _ _ _ => false
  | _ => true
theorem noSwap {t : Option Expr} {l : Nat} {env : PySem.Env} (h : notComp e = true) : swapsWith e t l env = pure false := by
  cases e <;> first | rfl | cases h
theorem asg_core {i : Nat} {m : M OV} {D : Ends} (hm : own.contains i = false) (w : Wn S own σ Z H F D (asgM own i m env)) {Q : VK}
    (run : ∀ (kk : OV → Env → So), asgM own i m env = (m env).so kk → (∀ r env1 v Z1 H1 F1 G, asgM own i m env = kk r env1 → SI S.K Z1 H1 σ env1 F1 → OR S.K Z1 H1 v r G → Stp Z H F Z1 H1 F1 G → D.nx (σ.set i (some v)) H1) → wE S e σ H Q) : wE S e σ H Q := by
  refine run (fun r e1 => if i < e1.length then .nx (e1.set i (some r)) else .bad) (by unfold asgM; rw [if_neg (by rw [hm]; exact Bool.false_ne_true)]) fun r env1 v Z1 H1 F1 G q I1 r1 s1 => ?_
  by_cases hi : i < env1.length
  · rw [if_pos hi] at q
    exact w.nx _ q _ Z1 H1 _ (I1.put hi r1 s1.gd) (store_stp (K := S.K) s1) (kp_set hm)
  · rw [if_neg hi] at q
    exact absurd q w.nb
theorem asg_own {i : Nat} {m : M OV} (h : asgM own i m env ≠ .bad) : own.contains i = false := by
  unfold asgM at h
  cases q : own.contains i with
  | false => rfl
  | true => rw [if_pos q] at h; exact absurd rfl h
theorem asg_fin {i : Nat} {m : M OV} {D : Ends} (w : Wn S own σ Z H F D (asgM own i m env)) : asgM own i m env = (m env).so (fun r e1 => if i < e1.length then .nx (e1.set i (some r)) else .bad) ∧
    ∀ r env1 v Z1 H1 F1 G, asgM own i m env = (if i < env1.length then .nx (env1.set i (some r)) else .bad) → SI S.K Z1 H1 σ env1 F1 → OR S.K Z1 H1 v r G → Stp Z H F Z1 H1 F1 G → D.nx (σ.set i (some v)) H1 := by
  have ho := asg_own w.nb
  refine ⟨by unfold asgM; rw [if_neg (by rw [ho]; exact Bool.false_ne_true)], fun r env1 v Z1 H1 F1 G q I1 r1 s1 => ?_⟩
  by_cases hi : i < env1.length
  · rw [if_pos hi] at q
    exact w.nx _ q _ Z1 H1 _ (I1.put hi r1 s1.gd) (store_stp (K := S.K) s1) (kp_set ho)
  · rw [if_neg hi] at q
    exact absurd q w.nb
theorem ss_asg {i : Nat} {x : Str} {p : Pos} {m : M OV} (n : StoOk S i x) (h : SV S e m) (hc : notComp e = true) : SS S own (.Assign [.Name x p] e pos) (asgM own i m) := fun σ env Z H F I D w => by
  refine ⟨tAsg (wE S e) (gName i), fun X hX => ps_set (by rw [hX.N]; exact n.nd) (by rw [hX.N]; exact n.at_) (by rw [hX.scope]; exact n.loc) (pe_w hX) (noSwap hc) (by rw [hX.fn, hX.scope]; exact n.fn), ?_⟩
  obtain ⟨hm, fin⟩ := asg_fin w
  exact h.so I w hm fun r env1 v Z1 H1 F1 G _ q I1 r1 s1 => fin r env1 v Z1 H1 F1 G q I1 r1 s1
/-- a comprehension that is stored at once -/
def swapB (sc : Scope) (y : Str) (l l2 : Nat) (scope : Scope) : Bool := (sc.names.lookup y == some .local) && l == l2 && !(scope.names.any fun (n, k) => n == y && (k == .local || k == .cell))
theorem ss_asgC {i : Nat} {y : Str} {py p2 spos : Pos} {elt : Expr} {ifs : List Expr} {scope : Scope} {ow : List (Str × Nat)} {mi : M (List PyData)} {bd : PyData → Env → Option Env} {tc : M Bool} {me : M OV} {js : List Nat} (n : StoOk S i y) (hk : S.scope.kind = .function)
    (hi : SIt S tg iter mi) (hN : S.N.Nodup) (ok : BlkOk S.N S.scope scope ow) (hjs : ∀ j, j ∈ js → j ∈ ow.map (·.2)) (hg : SG (S.blk scope) tg js bd) (ht : STs (S.blk scope) ifs tc) (he : SV (S.blk scope) elt me) (hs : notSetE iter = true) :
    SS S own (.Assign [.Name y py] (.ListComp elt [⟨tg, iter, ifs, 0⟩] scope p2) spos) (asgM own i (compM mi bd tc me (ow.map (·.2)))) := fun σ env Z H F I D w => by
  have hp : ∀ X : Cx, S.has X → PE X (.ListComp elt [⟨tg, iter, ifs, 0⟩] scope p2) (tLc (wI S tg iter) (wG (S.blk scope) tg) (wTs (S.blk scope) ifs) (wE (S.blk scope) elt) (ow.map (·.2))) := fun X hX =>
    pe_lc hX.calm (by rw [hX.N]; exact hN) (pi_w hX) (by rw [hX.N, hX.scope]; exact ok)
      (fun s H C cl fp => pg_w (has_blk hX scope s H C cl fp)) (fun s H C cl fp => pts_w (has_blk hX scope s H C cl fp)) (fun s H C cl fp => pe_w (has_blk hX scope s H C cl fp)) (folded hs)
  refine ⟨tAsg (tLc (wI S tg iter) (wG (S.blk scope) tg) (wTs (S.blk scope) ifs) (wE (S.blk scope) elt) (ow.map (·.2))) (gName i), fun X hX => ?_, ?_⟩
  · have hbk : X.env.blockKind = .function := by unfold PySem.Env.blockKind; rw [hX.scope, hk]; rfl
    have hsw : swapsWith (.ListComp elt [⟨tg, iter, ifs, 0⟩] scope p2) (some (.Name y py)) spos.line X.env = pure (swapB S.scope y py.line p2.line scope) := by
      unfold swapsWith swapB
      simp only [hbk, Expr.pos]
      have : X.env.kindOf y = S.scope.names.lookup y := by show X.env.scope.names.lookup y = _; rw [hX.scope]
      rw [this]
      rfl
    by_cases hb : swapB S.scope y py.line p2.line scope = true
    · have hloc : X.env.scope.names.lookup y = some .local := by
        unfold swapB at hb
        simp only [Bool.and_eq_true, beq_iff_eq] at hb
        rw [hX.scope]; exact hb.1.1
      exact ps_setLc hX.calm (by rw [hX.N]; exact hN) (by rw [hX.N]; exact n.at_) hloc (by rw [hsw, hb]) (pi_w hX) (by rw [hX.N, hX.scope]; exact ok)
        (fun s H C cl fp => pg_w (has_blk hX scope s H C cl fp)) (fun s H C cl fp => pts_w (has_blk hX scope s H C cl fp)) (fun s H C cl fp => pe_w (has_blk hX scope s H C cl fp)) (folded hs)
    · have hb : swapB S.scope y py.line p2.line scope = false := by simpa using hb
      exact ps_set (by rw [hX.N]; exact n.nd) (by rw [hX.N]; exact n.at_) (by rw [hX.scope]; exact n.loc) (hp X hX) (by rw [hsw, hb]) (by rw [hX.fn, hX.scope]; exact n.fn)
  obtain ⟨hm, fin⟩ := asg_fin w
  -- the statement's meaning as an expression's
  obtain ⟨nn, hn⟩ : ∃ nn : Rs OV, nn = compM mi bd tc me (ow.map (·.2)) env := ⟨_, rfl⟩
  refine lc_read hi hjs hg ht he I (hn.trans Rs.bind_idO.symm) (fun r env1 q v Z1 H1 F1 G I1 r1 s1 => ?_) (by rw [hn]; exact w.ex.rs hm) (by rw [hn]; exact so_nb hm w.nb)
  exact fin r env1 v Z1 H1 F1 G (by rw [hm, ← hn, q]; rfl) I1 r1 s1
/-! an expression alone -/
def exprM (m : M OV) : MS := fun env => (m env).so fun _ e1 => .nx e1
theorem ss_expr {m : M OV} (h : SV S e m) (hc : notComp e = true) : SS S own (.Expr e pos) (exprM m) := fun σ env Z H F I D w => by
  refine ⟨tDrop (wE S e), fun X hX => ps_expr (pe_w hX) (noSwap hc), ?_⟩
  exact h.so I w rfl fun r env1 v Z1 H1 F1 G _ q I1 r1 s1 => w.nx _ q σ Z1 H1 F1 I1 s1.drop .refl
/-! return -/
def retM (m : M OV) : MS := fun env => (m env).so fun r e1 => .ret r e1
theorem ss_ret {m : M OV} (h : SV S e m) : SS S own (.Return (some e) pos) (retM m) := fun σ env Z H F I D w => by
  refine ⟨tRet (wE S e), fun X hX => ps_ret (pe_w hX), ?_⟩
  exact h.so I w rfl fun r env1 v Z1 H1 F1 G _ q I1 r1 s1 => w.rt _ _ q v σ Z1 H1 F1 G I1 r1 s1 .refl
theorem ss_retN : SS S own (.Return none pos) (fun env => .ret (.fz .none) env) := fun σ env Z H F I D w =>
  ⟨tRetN, fun X hX => ps_retN, w.rt _ _ rfl .non σ Z H F [] I (.fz .non) .refl .refl⟩
/-! if -/
def ifM (tc : M Bool) (ma mb : MS) : MS := fun env => (tc env).so fun r e1 => if r = true then ma e1 else mb e1
theorem ss_if {tc : M Bool} {sa sb : List Stmt} {ma mb : MS} (hc : SB S c tc) (ha : SSs S own sa ma) (hb : SSs S own sb mb) : SS S own (.If c sa sb pos) (ifM tc ma mb) := fun σ env Z H F I D w => by
  refine ⟨tIfS (wT S c) (wSs S sa) (wSs S sb), fun X hX => ps_if (pt_w hX) (pss_w hX) (pss_w hX), ?_⟩
  refine hc.so I w rfl fun r env1 Z1 H1 F1 _ q I1 s1 => ?_
  cases r with
  | true => exact iteT (ha σ env1 Z1 H1 F1 I1 D ((w.step s1 .refl).eq (by rw [q]; rfl)))
  | false => exact iteF (hb σ env1 Z1 H1 F1 I1 D ((w.step s1 .refl).eq (by rw [q]; rfl)))
/-! for -/
def forL (bd : PyData → Env → Option Env) (mb : MS) : List PyData → Env → So
  | [], env => .nx env
  | d :: ds, env => match bd d env with
    | none => .bad
    | some e1 => (mb e1).bind fun e2 => forL bd mb ds e2
def forM' (own js : List Nat) (mi : M (List PyData)) (bd : PyData → Env → Option Env) (mb : MS) : MS := fun env => if js.any own.contains = true then .bad else (mi env).so fun ds e1 => forL bd mb ds e1
theorem kp_js {js : List Nat} {σ σ' : St} (h : js.any own.contains = false) (k : ∀ j, j ∉ js → σ'[j]? = σ[j]?) : Kp own σ σ' := fun i hi => k i fun z => by
  have : js.any own.contains = true := List.any_eq_true.mpr ⟨i, z, List.contains_iff_mem.mpr hi⟩
  rw [this] at h; cases h
/-- a new frozen object of the iterator's -/
theorem SI.yield {K : PySem.W.Frag} {Z Z' H H' : Hp} (I : SI K Z H σ env F) (ez : Ex Z Z') (eh : Ex Z' H') (exh : Ex H H') (gz : ∀ b, Z' b ≠ none → Z b ≠ none ∨ H b = none) : SI K Z' H' σ env F ∧ Stp Z H F Z' H' F [] := by
  refine ⟨⟨I.len, eh, fun j u e => ?_, I.non, I.dis⟩, ez, fun b o e _ => exh b o e, fun b h => h.elim (fun z => by cases z) .inl, fun b hb => (gz b hb).imp id .inr, fun _ _ h => by cases h⟩
  obtain ⟨v, ev, r⟩ := I.rep j u e
  refine ⟨v, ev, r.mono ez (fun b hb => ?_) fun b hb => ?_⟩
  · obtain ⟨_, ws, q⟩ := r.own b hb
    rw [q]; exact exh b _ q
  · cases q : Z' b with
    | none => rfl
    | some o =>
      obtain ⟨z0, ws, qw⟩ := r.own b hb
      rcases gz b (by rw [q]; exact fun z => by cases z) with z | z
      · exact absurd z0 z
      · rw [qw] at z; cases z
theorem ss_for {mi : M (List PyData)} {bd : PyData → Env → Option Env} {mb : MS} {js : List Nat} {body : List Stmt} (hi : SIt S tg iter mi) (hg : SG S tg js bd) (hb : SSs S own body mb) (hs : notSetE iter = true) : SS S own (.For tg iter body [] pos) (forM' own js mi bd mb) := fun σ env Z H F I D w => by
  refine ⟨tFor (wI S tg iter) (wG S tg) (wSs S body), fun X hX => ps_for hX.own hX.calm (pi_w hX) (pg_w hX) (pss_w hX) (folded hs), ?_⟩
  obtain ⟨hj, hm⟩ : js.any own.contains = false ∧ forM' own js mi bd mb env = (mi env).so fun ds e1 => forL bd mb ds e1 := by
    have nb := w.nb
    unfold forM' at nb ⊢
    cases q : js.any own.contains with
    | false => exact ⟨rfl, by rw [if_neg Bool.false_ne_true]⟩
    | true => rw [if_pos q] at nb; exact absurd rfl nb
  refine hi σ env Z H F I _ (fun ds e1 q J Z1 H1 F1 I1 w1 s1 => ?_) (w.ex.rs hm) (so_nb hm w.nb)
  have hm1 : forM' own js mi bd mb env = forL bd mb ds e1 := by rw [hm, q]; rfl
  obtain ⟨G, Y, wk, hG, hY⟩ := w1.ex
  refine for_it wk (fun i σi Hi => ∃ Zi envi Fi, SI S.K Zi Hi σi envi Fi ∧ Stp Z1 H1 F1 Zi Hi Fi [] ∧ Kp own σ σi ∧ forM' own js mi bd mb env = forL bd mb (ds.drop i) envi) ⟨Z1, e1, F1, I1, .refl, .refl, by rw [List.drop_zero]; exact hm1⟩ ?_ ?_ ?_
  · rintro i σi Hi _ ⟨Zi, envi, Fi, Ii, si, ki, hi'⟩
    exact hG Hi (si.zz.trans Ii.sub)
  · rintro i x σi Hi H' hlt ⟨Zi, envi, Fi, Ii, si, ki, hmi⟩ y
    have hlt : i < ds.length := hlt
    obtain ⟨Z', ez, eh, exh, rx, gz⟩ := hY i Hi x H' ds[i] y (List.getElem?_eq_getElem hlt) Zi si.zz Ii.sub
    obtain ⟨IA, sA⟩ := Ii.yield ez eh exh gz
    rw [List.drop_eq_getElem_cons hlt] at hmi
    cases qb : bd ds[i] envi with
    | none => exact absurd (by rw [hmi]; unfold forL; rw [qb]) w.nb
    | some eb =>
      have hmi2 : forM' own js mi bd mb env = (mb eb).bind fun e2 => forL bd mb (ds.drop (i + 1)) e2 := by rw [hmi]; conv => lhs; unfold forL; rw [qb]
      refine hg σi envi eb Z' H' Fi x ds[i] IA rx qb _ fun σb Fb Ib sb kb lb => ?_
      have st : Stp Z1 H1 F1 Z' H' Fb [] := (si.trans0 sA).trans0 sb
      have kk : Kp own σ σb := ki.trans (kp_js hj kb)
      have w2 := (w.step (s1.trans0 st) kk).eq hmi2
      refine hb σb eb Z' H' Fb Ib _ ⟨fun env' q σ' Z2 H2 F2 I2 s2 k2 => ?_, fun r env' q v σ' Z2 H2 F2 G I2 o s2 k2 => w2.rt r env' (by rw [q]; rfl) v σ' Z2 H2 F2 G I2 o s2 k2, fun x' env' q => w2.ex x' env' (by rw [q]; rfl), fun q => w2.nb (by rw [q]; rfl)⟩
      exact ⟨Z2, env', F2, I2, st.trans0 s2, kk.trans k2, by rw [hmi2, q]; rfl⟩
  · rintro σi Hi ⟨Zi, envi, Fi, Ii, si, ki, hmi⟩
    rw [List.drop_length] at hmi
    exact w.nx envi hmi σi Zi Hi Fi Ii (s1.trans0 si) ki
/-! while -/
def whileL (tc : M Bool) (mb : MS) : Nat → Env → So
  | 0, _ => .bad
  | n + 1, env => (tc env).so fun r e1 => if r = true then (mb e1).bind (whileL tc mb n) else .nx e1
theorem ss_while {n : Nat} {tc : M Bool} {mb : MS} {body : List Stmt} (hc : SB S c tc) (hb : SSs S own body mb) : SS S own (.While c body [] pos) (whileL tc mb n) := fun σ env Z H F I D w => by
  refine ⟨tWhile (wT S c) (wSs S body), fun X hX => ps_while hX.own (pt_w hX) (pss_w hX), ?_⟩
  refine ⟨fun k σi Hi => ∃ Zi envi Fi, SI S.K Zi Hi σi envi Fi ∧ Stp Z H F Zi Hi Fi [] ∧ Kp own σ σi ∧ whileL tc mb n env = whileL tc mb k envi, ⟨n, Z, env, F, I, .refl, .refl, rfl⟩, ?_⟩
  rintro k σi Hi ⟨Zi, envi, Fi, Ii, si, ki, hmi⟩
  cases k with
  | zero => exact absurd hmi w.nb
  | succ k =>
    have w1 := (w.step si ki).eq hmi
    refine hc.so Ii w1 rfl fun r env1 Z1 H1 F1 _ q I1 s1 => ?_
    cases r with
    | false =>
      exact iteF (w1.nx env1 q σi Z1 H1 F1 I1 s1 .refl)
    | true =>
      refine iteT ?_
      have q : whileL tc mb (k + 1) envi = (mb env1).bind (whileL tc mb k) := q
      have w2 := (w1.step s1 .refl).eq q
      refine ⟨fun σ2 H2 => ∃ Z2 env2 F2, SI S.K Z2 H2 σ2 env2 F2 ∧ Stp Z H F Z2 H2 F2 [] ∧ Kp own σ σ2 ∧ whileL tc mb n env = whileL tc mb k env2, fun σ2 H2 h => ⟨k, Nat.lt_succ_self k, h⟩, ?_⟩
      refine hb σi env1 Z1 H1 F1 I1 _ ⟨fun env' q2 σ' Z2 H2 F2 I2 s2 k2 => ?_, fun r env' q2 v σ' Z2 H2 F2 G I2 o s2 k2 => w2.rt r env' (by rw [q2]; rfl) v σ' Z2 H2 F2 G I2 o s2 k2, fun x' env' q2 => w2.ex x' env' (by rw [q2]; rfl), fun q2 => w2.nb (by rw [q2]; rfl)⟩
      exact ⟨Z2, env', F2, I2, (si.trans0 s1).trans0 s2, ki.trans k2, by rw [hmi, q, q2]; rfl⟩
/-! ### a statement over a view: what is owned is read frozen, and stands again behind it -/
def cloF : Option OV → Option OV
  | some (.fz d) => if closedD d = true then some (.fz d) else none
  | _ => none
def keepE (keep : List Nat) : Nat → Env → Env → Env
  | i, o :: env, o' :: env' => (if keep.contains i = true then o else cloF o') :: keepE keep (i + 1) env env'
  | _, _, _ => []
theorem keepE_len {keep : List Nat} : ∀ {k : Nat} {env env' : Env}, env.length = env'.length → (keepE keep k env env').length = env.length
  | k, [], [], _ => rfl
  | k, o :: env, o' :: env', h => by
    have := keepE_len (keep := keep) (k := k + 1) (env := env) (env' := env') (by simpa using h)
    simp [keepE, this]
  | k, [], _ :: _, h => by simp at h
  | k, _ :: _, [], h => by simp at h
theorem keepE_at {keep : List Nat} : ∀ {k i : Nat} {env env' : Env} {x : OV}, (keepE keep k env env')[i]? = some (some x) →
    (keep.contains (k + i) = true ∧ env[i]? = some (some x)) ∨ (keep.contains (k + i) = false ∧ ∃ d, x = .fz d ∧ closedD d = true ∧ env'[i]? = some (some x))
  | k, 0, o :: env, o' :: env', x, h => by
    have h : (if keep.contains k = true then o else cloF o') = some x := by simpa [keepE] using h
    by_cases q : keep.contains k = true
    · rw [if_pos q] at h; exact .inl ⟨q, by simp [h]⟩
    · rw [if_neg q] at h
      refine .inr ⟨by simpa using q, ?_⟩
      cases o' with
      | none => cases h
      | some y =>
        cases y with
        | fz d =>
          have h : (if closedD d = true then some (OV.fz d) else none) = some x := h
          by_cases c : closedD d = true
          · rw [if_pos c] at h; cases h; exact ⟨d, rfl, c, rfl⟩
          · rw [if_neg c] at h; cases h
        | ol _ => cases h
        | sc _ => cases h
        | rg _ _ => cases h
  | k, i + 1, o :: env, o' :: env', x, h => by
    have := keepE_at (keep := keep) (k := k + 1) (i := i) (env := env) (env' := env') (x := x) (by simpa [keepE] using h)
    rw [show k + 1 + i = k + (i + 1) by omega] at this
    simpa using this
  | k, i, [], _, x, h => by simp [keepE] at h
  | k, i, _ :: _, [], x, h => by simp [keepE] at h
theorem keepE_in {keep : List Nat} : ∀ {k i : Nat} {env env' : Env}, keep.contains (k + i) = true → env.length = env'.length → (keepE keep k env env')[i]? = env[i]?
  | k, 0, o :: env, o' :: env', c, _ => by
    have c : k ∈ keep := List.contains_iff_mem.mp c
    simp [keepE, c]
  | k, i + 1, o :: env, o' :: env', c, h => by
    have := keepE_in (keep := keep) (k := k + 1) (i := i) (env := env) (env' := env') (by rw [show k + 1 + i = k + (i + 1) by omega]; exact c) (by simpa using h)
    simpa [keepE] using this
  | k, i, [], [], _, _ => by simp [keepE]
  | k, i, [], _ :: _, _, h => by simp at h
  | k, i, _ :: _, [], _, h => by simp at h
def closedR : OV → Bool
  | .fz d => closedD d
  | _ => false
def bwSM (vs ks keep : List Nat) (m : MS) : MS := fun env => if noOwn (killE ks (frzE vs env)) = true then (match m (killE ks (frzE vs env)) with
  | .nx e' => if e'.length = env.length then .nx (keepE keep 0 env e') else .bad
  | .ret r e' => if closedR r = true ∧ e'.length = env.length then .ret r (keepE keep 0 env e') else .bad
  | .ex x e' => if e'.length = env.length then .ex x (keepE keep 0 env e') else .bad
  | .bad => .bad) else .bad
theorem rp_closed {H H' : Hp} {v : V} {d : PyData} (r : Rp H v d) (c : closedD d = true) : Rp H' v d := by
  cases r with
  | non => exact .non
  | bl b => exact .bl b
  | int i => exact .int i
  | str x g => exact .str x g
  | lst _ _ _ => cases c
  | tup _ _ _ => cases c
theorem killE_len : ∀ (ks : List Nat) (env : Env), (killE ks env).length = env.length
  | [], _ => rfl
  | i :: ks, env => by unfold killE; rw [killE_len ks, List.length_set]
theorem ss_bws {m : MS} {st : Stmt} (vs ks keep : List Nat) (hk : own.all keep.contains = true) (h : SS S keep st m) : SS S own st (bwSM vs ks keep m) := fun σ env Z H F I D w => by
  obtain ⟨mm, hmm⟩ : ∃ mm, mm = bwSM vs ks keep m env := ⟨_, rfl⟩
  rw [← hmm] at w
  unfold bwSM at hmm
  split at hmm
  · rename_i hno
    obtain ⟨Z1, F1, I1, s1⟩ := frzE_ok vs I
    obtain ⟨F2, I2⟩ := killE_ok ks I1
    have no := I2.noOwn hno
    have kown : ∀ {σ' : St}, Kp keep σ σ' → Kp own σ σ' := fun {σ'} kp i hi => kp i (List.contains_iff_mem.mp (List.all_eq_true.mp hk i hi))
    -- the real state behind it
    have back : ∀ {env' : Env} {σ' : St} {Z' H' : Hp} {F' : Fp} {G : List Addr}, SI S.K Z' H' σ' env' F' → Stp Z1 H F2 Z' H' F' G → Kp keep σ σ' → env'.length = env.length → ∃ Fr : Fp, SI S.K Z H' σ' (keepE keep 0 env env') Fr ∧ Stp Z H F Z H' Fr [] := fun {env' σ' Z' H' F' G} I' s' kp hl => by
      obtain ⟨⟨A1, A2⟩, _⟩ := view_back I I1 s1 no s' I'.sub
      refine ⟨fun i => if keep.contains i = true then F i else [], ⟨by rw [keepE_len hl.symm, I'.len, hl], A1.sub, fun i x e => ?_, fun i hi => ?_, fun i j b hij hb => ?_⟩, ?_⟩
      · rcases keepE_at e with ⟨c, e1⟩ | ⟨c, d, rfl, cd, e1⟩
        · rw [Nat.zero_add] at c
          obtain ⟨v, ev, r⟩ := A1.rep i x e1
          refine ⟨v, by rw [kp i (List.contains_iff_mem.mp c)]; exact ev, ?_⟩
          show OR S.K Z H' v x (if keep.contains i = true then F i else [])
          rw [if_pos c]; exact r
        · rw [Nat.zero_add] at c
          obtain ⟨v, ev, r⟩ := I'.rep i _ e1
          refine ⟨v, ev, ?_⟩
          show OR S.K Z H' v (.fz d) (if keep.contains i = true then F i else [])
          rw [if_neg (by rw [c]; exact Bool.false_ne_true)]
          generalize F' i = G0 at r
          cases r with
          | fz ro => exact .fz (rp_closed ro cd)
      · show (if keep.contains i = true then F i else []) = []
        by_cases c : keep.contains i = true
        · rw [if_pos c]
          refine A1.non i fun x e => hi x ?_
          have hlt : i < (keepE keep 0 env env').length := by rw [keepE_len hl.symm]; exact (List.getElem?_eq_some_iff.mp e).1
          cases q : (keepE keep 0 env env')[i]? with
          | none => rw [List.getElem?_eq_none_iff] at q; omega
          | some o =>
            have := keepE_in (keep := keep) (k := 0) (i := i) (env := env) (env' := env') (by rw [Nat.zero_add]; exact c) hl.symm
            rw [this] at q
            rw [← q, e]
        · rw [if_neg c]
      · have hb : b ∈ (if keep.contains i = true then F i else []) := hb
        show b ∉ (if keep.contains j = true then F j else [])
        by_cases ci : keep.contains i = true
        · rw [if_pos ci] at hb
          by_cases cj : keep.contains j = true
          · rw [if_pos cj]; exact A1.dis i j b hij hb
          · rw [if_neg cj]; exact fun z => nomatch z
        · rw [if_neg ci] at hb; cases hb
      · have A2 := A2.drop
        refine ⟨A2.zz, A2.fr, fun b hb => A2.gr b (hb.imp id fun ⟨i, z⟩ => ⟨i, ?_⟩), A2.gz, fun i b hb => nomatch hb⟩
        by_cases c : keep.contains i = true
        · have z : b ∈ (if keep.contains i = true then F i else []) := z
          rw [if_pos c] at z; exact z
        · have z : b ∈ (if keep.contains i = true then F i else []) := z
          rw [if_neg c] at z; cases z
    refine h σ _ Z1 H F2 I2 D ⟨fun env' q σ' Z' H' F' I' s' kp => ?_, fun r env' q v σ' Z' H' F' G I' o' s' kp => ?_, fun x env' q σ' Z' H' F' cls d I' s' kp hx => ?_, fun q => ?_⟩
    · rw [q] at hmm
      have hmm : mm = (if env'.length = env.length then .nx (keepE keep 0 env env') else .bad) := hmm
      split at hmm
      · rename_i hl
        obtain ⟨Fr, A1, A2⟩ := back I' s' kp hl
        exact w.nx _ hmm σ' Z H' Fr A1 A2 (kown kp)
      · exact absurd hmm w.nb
    · rw [q] at hmm
      have hmm : mm = (if closedR r = true ∧ env'.length = env.length then .ret r (keepE keep 0 env env') else .bad) := hmm
      split at hmm
      · rename_i hc
        obtain ⟨Fr, A1, A2⟩ := back I' s' kp hc.2
        have hc := hc.1
        cases o' with
        | fz ro => exact w.rt _ _ hmm v σ' Z H' Fr [] A1 (.fz (rp_closed ro hc)) A2 (kown kp)
        | ol _ _ _ _ _ => cases hc
        | sc _ => cases hc
        | rg _ => cases hc
      · exact absurd hmm w.nb
    · rw [q] at hmm
      have hmm : mm = (if env'.length = env.length then .ex x (keepE keep 0 env env') else .bad) := hmm
      split at hmm
      · rename_i hl
        obtain ⟨Fr, A1, A2⟩ := back I' s' kp hl
        exact w.ex x _ hmm σ' Z H' Fr cls d A1 A2 (kown kp) hx
      · exact absurd hmm w.nb
    · rw [q] at hmm; exact w.nb hmm
  · exact absurd hmm w.nb
end
end Vi

set_option Elab.async false
set_option linter.all false
set_option maxRecDepth 100000
namespace Vi
open PySem L2

/-! ### writing into an owned list -/
section
variable {K : PySem.W.Frag} {Z H Z0 H0 : Hp} {σ : St} {env : Env} {F F0 : Fp} {G : List Addr} {i : Nat}
theorem ORs.set {v : V} {d : PyData} (r : Rp Z v d) : ∀ {vs : List V} {xs : List OV} {Fx : List Addr} (n : Nat), ORs K Z H vs xs Fx → ∃ F', ORs K Z H (vs.set n v) (xs.set n (.fz d)) F' ∧ ∀ b, b ∈ F' → b ∈ Fx
  | _, _, _, _, .nil => ⟨[], .nil, fun _ h => h⟩
  | _, _, _, 0, .cons (F := F) (G := G) q t dj => ⟨[] ++ G, .cons (.fz r) t (fun _ z => nomatch z), fun b hb => List.mem_append_right _ hb⟩
  | _, _, _, n + 1, .cons (F := F) (G := G) q t dj => by
    obtain ⟨F', t', h⟩ := ORs.set r n t
    refine ⟨F ++ F', .cons q t' (fun b hb hc => dj b hb (h b hc)), fun b hb => ?_⟩
    rcases List.mem_append.mp hb with z | z
    · exact List.mem_append_left _ z
    · exact List.mem_append_right _ (h b z)
theorem ORs.erase : ∀ {vs : List V} {xs : List OV} {Fx : List Addr} (n : Nat), ORs K Z H vs xs Fx → ∃ F', ORs K Z H (vs.eraseIdx n) (xs.eraseIdx n) F' ∧ ∀ b, b ∈ F' → b ∈ Fx
  | _, _, _, _, .nil => ⟨[], .nil, fun _ h => h⟩
  | _, _, _, 0, .cons (F := F) (G := G) q t dj => ⟨G, t, fun b hb => List.mem_append_right _ hb⟩
  | _, _, _, n + 1, .cons (F := F) (G := G) q t dj => by
    obtain ⟨F', t', h⟩ := ORs.erase n t
    refine ⟨F ++ F', .cons q t' (fun b hb hc => dj b hb (h b hc)), fun b hb => ?_⟩
    rcases List.mem_append.mp hb with z | z
    · exact List.mem_append_left _ z
    · exact List.mem_append_right _ (h b z)
theorem ORs.get : ∀ {vs : List V} {xs : List OV} {Fx : List Addr} {n : Nat} {x : OV}, ORs K Z H vs xs Fx → xs[n]? = some x → ∃ v F', vs[n]? = some v ∧ OR K Z H v x F' ∧ ∀ b, b ∈ F' → b ∈ Fx
  | _, _, _, _, _, .nil, h => by simp at h
  | _, _, _, 0, x, .cons (F := F) q t dj, h => by simp at h; subst h; exact ⟨_, F, rfl, q, fun b hb => List.mem_append_left _ hb⟩
  | _, _, _, n + 1, x, .cons q t dj, h => by
    obtain ⟨v, F', e, r, s⟩ := ORs.get (n := n) t (by simpa using h)
    exact ⟨v, F', by simpa using e, r, fun b hb => List.mem_append_right _ (s b hb)⟩
/-- the owned list of slot i -/
theorem SI.olAt {xs : List OV} (I : SI K Z H σ env F) (q : env[i]? = some (some (.ol xs))) : ∃ (a : Addr) (vs : List V) (Fx : List Addr), σ[i]? = some (some (.ref a)) ∧ F i = a :: Fx ∧ Z a = none ∧ H a = some (.lst vs) ∧ vs.length ≤ sizeLine ∧ ORs K Z H vs xs Fx ∧ a ∉ Fx := by
  obtain ⟨v, ev, r⟩ := I.rep i _ q
  generalize hG : F i = G at r
  cases r with
  | ol hz ha hl rr hn => exact ⟨_, _, _, ev, rfl, hz, ha, hl, rr, hn⟩
/-- it is written anew; a value G that lay beside may have gone into it -/
theorem SI.write {a : Addr} {vs' : List V} {xs' : List OV} {Fx Fx' : List Addr} {x0 : OV} (I : SI K Z H σ env F) (s : Stp Z0 H0 F0 Z H F G) (hσ : σ[i]? = some (some (.ref a))) (q : env[i]? = some (some x0)) (hF : F i = a :: Fx) (hz : Z a = none) (hl : vs'.length ≤ sizeLine) (r : ORs K Z H vs' xs' Fx')
    (hn : a ∉ Fx) (sub : ∀ b, b ∈ Fx' → b ∈ Fx ∨ b ∈ G) : SI K Z (upd H a (.lst vs')) σ (env.set i (some (.ol xs'))) (setF F i (a :: Fx')) ∧ Stp Z0 H0 F0 Z (upd H a (.lst vs')) (setF F i (a :: Fx')) [] := by
  have hi : i < env.length := (List.getElem?_eq_some_iff.mp q).1
  have aG : a ∉ G := fun z => s.gd i a z (by rw [hF]; exact List.mem_cons_self)
  have nx : a ∉ Fx' := fun z => (sub a z).elim hn aG
  have other : ∀ j b, j ≠ i → b ∈ F j → b ≠ a := fun j b hj hb z => by
    subst z
    exact I.dis j i b hj hb (by rw [hF]; exact List.mem_cons_self)
  -- all but slot i
  have J : SI K Z (upd H a (.lst vs')) σ (env.set i none) (setF F i []) := by
    have J0 := I.gone i
    refine ⟨J0.len, fun b o e => ?_, fun j x e => ?_, J0.non, J0.dis⟩
    · rw [upd_ne fun z => by rw [z, hz] at e; cases e]; exact I.sub b o e
    · obtain ⟨v, ev, rv⟩ := J0.rep j x e
      refine ⟨v, ev, rv.mono (Same.refl _) (fun b hb => ?_) fun b hb => (rv.own b hb).1⟩
      by_cases qj : j = i
      · subst qj; rw [setF_same] at hb; cases hb
      · rw [setF_ne qj] at hb; rw [upd_ne (other j b qj hb)]
  have rr : OR K Z (upd H a (.lst vs')) (.ref a) (.ol xs') (a :: Fx') := .ol hz upd_same hl (r.mono (Same.refl _) (fun b hb => upd_ne fun z => nx (by rw [← z]; exact hb)) fun b hb => (r.own b hb).1) nx
  have J2 := J.put (i := i) (x := .ol xs') (v := .ref a) (by rw [List.length_set]; exact hi) rr fun j b hb hc => by
    by_cases qj : j = i
    · subst qj; rw [setF_same] at hc; cases hc
    · rw [setF_ne qj] at hc
      rcases List.mem_cons.mp hb with z | z
      · exact other j b qj hc z
      · rcases sub b z with y | y
        · exact I.dis i j b (Ne.symm qj) (by rw [hF]; exact List.mem_cons_of_mem _ y) hc
        · exact s.gd j b y hc
  rw [set_self hσ, List.set_set, setF_2] at J2
  refine ⟨J2, s.zz, fun b o e hnb => ?_, fun b h => ?_, s.gz, fun _ _ h => by cases h⟩
  · rw [upd_ne fun z => ?_]
    · exact s.fr b o e hnb
    · subst z
      rcases s.gr b (.inr ⟨i, by rw [hF]; exact List.mem_cons_self⟩) with ⟨m, y⟩ | y
      · exact hnb m y
      · rw [e] at y; cases y
  · rcases h with h | ⟨j, h⟩
    · cases h
    · by_cases qj : j = i
      · subst qj
        rw [setF_same] at h
        rcases List.mem_cons.mp h with z | z
        · subst z; exact s.gr b (.inr ⟨j, by rw [hF]; exact List.mem_cons_self⟩)
        · rcases sub b z with y | y
          · exact s.gr b (.inr ⟨j, by rw [hF]; exact List.mem_cons_of_mem _ y⟩)
          · exact s.gr b (.inl y)
      · rw [setF_ne qj] at h
        exact s.gr b (.inr ⟨j, h⟩)
end
def olOf (env : Env) (i : Nat) : Option (List OV) := match env[i]? with
  | some (some (.ol xs)) => some xs
  | _ => none
theorem olOf_some {env : Env} {i : Nat} {xs : List OV} (h : olOf env i = some xs) : env[i]? = some (some (.ol xs)) := by
  unfold olOf at h
  split at h
  · rename_i q; cases h; exact q
  · cases h
section
variable {S : Ctx} {own : List Nat} {e e2 a b : Expr} {es : List Expr} {pos cpos apos : Pos}
theorem few_ok {env : PySem.Env} (h : es.all notStar = true) (hl : es.length < 30) : ((backTo cpos (starEach es env)).all (fun x => !x.1) && (backToKw cpos (keywordEach [] env)).all (fun x => x.1.isSome)
      && decide (es.length + ([] : List Keyword).length + (if ([] : List Keyword).isEmpty then 0 else 1) < 30)) = true := by
  have g : ∀ es : List Expr, es.all notStar = true → (backTo cpos (starEach es env)).all (fun x => !x.1) = true := by
    intro es
    induction es with
    | nil => intro _; rfl
    | cons t ts ih =>
      intro h
      rw [List.all_cons, Bool.and_eq_true] at h
      rw [star_cons h.1]
      show (true && (backTo cpos (starEach ts env)).all (fun x => !x.1)) = true
      rw [ih h.2]; rfl
  rw [g es h]
  show (true && true && decide (es.length + 0 + 0 < 30)) = true
  rw [decide_eq_true (by omega)]
  rfl
/-! x.append(e) -/
def appM (i : Nat) (m : M OV) : M OV := fun env => match olOf env i with
  | none => .bad
  | some _ => (m env).bind fun r e1 => match olOf e1 i with
    | none => .bad
    | some xs => if xs.length < sizeLine then .ok (.fz .none) (e1.set i (some (.ol (xs ++ [r])))) else .bad
theorem sv_app {i : Nat} {x : Str} {p : Pos} {m : M OV} (n : NameOk S i x) (h : SV S e m) (hn : notStar e = true) (hl : (apos.endLine == cpos.line) = true) : SV S (.Call (.Attribute (.Name x p) "append" apos) [e] [] cpos) (appM i m) := .of fun σ env Z H F I Q mm hm k kx kb => by
  have hall : [e].all notStar = true := by rw [List.all_cons, hn]; rfl
  refine ⟨tBM S.K "list" rAppend (tVar i) (tCons (wE S e) tNil), fun X hX => by
    rw [← hX.K]
    exact pe_bm PySem.F.plainAttrs_list PySem.F.slot_list_append PySem.F.type_list_append mt_append (n.pe hX) (pa_cons (pe_w hX) pa_nil (star_cons hn)) rfl (few_ok hall (by show 1 < 30; decide)) hl (star_cons hn) rfl, ?_⟩
  unfold appM at hm
  cases q0 : olOf env i with
  | none => rw [q0] at hm; exact absurd hm kb
  | some xs0 =>
    rw [q0] at hm
    obtain ⟨a0, vs0, Fx0, hσ, _, _, ha0, _, _, _⟩ := I.olAt (olOf_some q0)
    refine ⟨.ref a0, hσ, .inl ⟨rfl, _, .inl (.inl ha0)⟩, ?_⟩
    refine h.go I hm kx kb fun r e1 v Z1 H1 F1 G _ q1 I1 r1 s1 => ?_
    cases q2 : olOf e1 i with
    | none => rw [q2] at q1; exact absurd q1 kb
    | some xs =>
      rw [q2] at q1
      have q1 : mm = (if xs.length < sizeLine then .ok (.fz .none) (e1.set i (some (.ol (xs ++ [r])))) else .bad) := q1
      split at q1
      · rename_i hlt
        obtain ⟨a, vs, Fx, hσ1, hF, hz, ha, hlv, rr, hnx⟩ := I1.olAt (olOf_some q2)
        have ea : a = a0 := by rw [hσ] at hσ1; cases hσ1; rfl
        subst ea
        have hvl : vs.length < sizeLine := by rw [rr.length]; exact hlt
        obtain ⟨I2, s2⟩ := I1.write s1 hσ (olOf_some q2) hF hz (vs' := vs ++ [v]) (by rw [List.length_append]; simp; omega) (rr.append (.one r1) fun b hb hc => by
          exact s1.gd i b hc (by rw [hF]; exact List.mem_cons_of_mem _ hb)) hnx fun b hb => List.mem_append.mp hb
        exact ⟨a, vs, v, rfl, rfl, ha, hvl, k _ _ q1 .non Z1 _ _ [] I2 (.fz .non) s2⟩
      · exact absurd q1 kb
/-! x.extend(e) -/
def extM (i : Nat) (m : M PyData) : M OV := fun env => match olOf env i with
  | none => .bad
  | some _ => (m env).bind fun d e1 => match olOf e1 i, d with
    | some xs, .list ds => if xs.length + ds.length ≤ sizeLine then .ok (.fz .none) (e1.set i (some (.ol (xs ++ ds.map .fz)))) else .bad
    | _, _ => .bad
theorem sv_ext {i : Nat} {x : Str} {p : Pos} {m : M PyData} (n : NameOk S i x) (h : SD S e m) (hn : notStar e = true) (hl : (apos.endLine == cpos.line) = true) : SV S (.Call (.Attribute (.Name x p) "extend" apos) [e] [] cpos) (extM i m) := .of fun σ env Z H F I Q mm hm k kx kb => by
  have hall : [e].all notStar = true := by rw [List.all_cons, hn]; rfl
  refine ⟨tBM S.K "list" rExtend (tVar i) (tCons (wE S e) tNil), fun X hX => by
    rw [← hX.K]
    exact pe_bm PySem.F.plainAttrs_list PySem.F.slot_list_extend PySem.F.type_list_extend mt_extend (n.pe hX) (pa_cons (pe_w hX) pa_nil (star_cons hn)) rfl (few_ok hall (by show 1 < 30; decide)) hl (star_cons hn) rfl, ?_⟩
  unfold extM at hm
  cases q0 : olOf env i with
  | none => rw [q0] at hm; exact absurd hm kb
  | some xs0 =>
    rw [q0] at hm
    obtain ⟨a0, vs0, Fx0, hσ, _, _, ha0, _, _, _⟩ := I.olAt (olOf_some q0)
    refine ⟨.ref a0, hσ, .inl ⟨rfl, _, .inl (.inl ha0)⟩, ?_⟩
    refine h.go I hm kx kb fun d e1 v Z1 H1 F1 _ q1 I1 r1 s1 => ?_
    cases q2 : olOf e1 i with
    | none => rw [q2] at q1; exact absurd q1 kb
    | some xs =>
      rw [q2] at q1
      cases r1 with
      | @lst p2 ws ds h2 l2 rw2 =>
        have q1 : mm = (if xs.length + ds.length ≤ sizeLine then .ok (.fz .none) (e1.set i (some (.ol (xs ++ ds.map .fz)))) else .bad) := q1
        split at q1
        · rename_i hlt
          obtain ⟨a, vs, Fx, hσ1, hF, hz, ha, hlv, rr, hnx⟩ := I1.olAt (olOf_some q2)
          have ea : a = a0 := by rw [hσ] at hσ1; cases hσ1; rfl
          subst ea
          have hvl : vs.length + ws.length ≤ sizeLine := by rw [rr.length, rw2.length]; exact hlt
          obtain ⟨I2, s2⟩ := I1.write s1 hσ (olOf_some q2) hF hz (vs' := vs ++ ws) (by rw [List.length_append]; exact hvl) (rr.append (ors_fz rw2) fun b hb hc => by cases hc) hnx fun b hb => .inl (by simpa using hb)
          exact ⟨a, p2, vs, ws, rfl, rfl, ha, I1.sub _ _ h2, hvl, k _ _ q1 .non Z1 _ _ [] I2 (.fz .non) s2⟩
        · exact absurd q1 kb
      | _ => exact absurd q1 kb
/-! x.pop(e), x.pop() -/
def popAtM (i : Nat) (m : M PyData) : M OV := fun env => match olOf env i with
  | none => .bad
  | some _ => (m env).bind fun d e1 => match olOf e1 i, d with
    | some xs, .int j => if -(2 ^ 63) ≤ j ∧ j < 2 ^ 63 then (match seqIndex? j xs.length with
      | some n => (match xs[n]? with
        | some (.fz d) => .ok (.fz d) (e1.set i (some (.ol (xs.eraseIdx n))))
        | _ => .bad)
      | none => .bad) else .bad
    | _, _ => .bad
theorem sv_popAt {i : Nat} {x : Str} {p : Pos} {m : M PyData} (n : NameOk S i x) (h : SD S e m) (hn : notStar e = true) (hl : (apos.endLine == cpos.line) = true) : SV S (.Call (.Attribute (.Name x p) "pop" apos) [e] [] cpos) (popAtM i m) := .of fun σ env Z H F I Q mm hm k kx kb => by
  have hall : [e].all notStar = true := by rw [List.all_cons, hn]; rfl
  refine ⟨tBM S.K "list" rPopAt (tVar i) (tCons (wE S e) tNil), fun X hX => by
    rw [← hX.K]
    exact pe_bm PySem.F.plainAttrs_list PySem.F.slot_list_pop PySem.F.type_list_pop mt_popAt (n.pe hX) (pa_cons (pe_w hX) pa_nil (star_cons hn)) rfl (few_ok hall (by show 1 < 30; decide)) hl (star_cons hn) rfl, ?_⟩
  unfold popAtM at hm
  cases q0 : olOf env i with
  | none => rw [q0] at hm; exact absurd hm kb
  | some xs0 =>
    rw [q0] at hm
    obtain ⟨a0, vs0, Fx0, hσ, _, _, ha0, _, _, _⟩ := I.olAt (olOf_some q0)
    refine ⟨.ref a0, hσ, .inl ⟨rfl, _, .inl (.inl ha0)⟩, ?_⟩
    refine h.go I hm kx kb fun d e1 v Z1 H1 F1 _ q1 I1 r1 s1 => ?_
    cases q2 : olOf e1 i with
    | none => rw [q2] at q1; exact absurd q1 kb
    | some xs =>
      rw [q2] at q1
      cases r1 with
      | int j =>
        have q1 : mm = (if -(2 ^ 63) ≤ j ∧ j < 2 ^ 63 then (match seqIndex? j xs.length with | some n => (match xs[n]? with | some (.fz d) => .ok (.fz d) (e1.set i (some (.ol (xs.eraseIdx n)))) | _ => .bad) | none => .bad) else .bad) := q1
        split at q1
        · rename_i hb
          cases qn : seqIndex? j xs.length with
          | none => rw [qn] at q1; exact absurd q1 kb
          | some n =>
            rw [qn] at q1
            cases qx : xs[n]? with
            | none => simp only [qx] at q1; exact absurd q1 kb
            | some y =>
              cases y with
              | fz d =>
                simp only [qx] at q1
                obtain ⟨a, vs, Fx, hσ1, hF, hz, ha, hlv, rr, hnx⟩ := I1.olAt (olOf_some q2)
                have ea : a = a0 := by rw [hσ] at hσ1; cases hσ1; rfl
                subst ea
                obtain ⟨w, Fw, hw, rw', _⟩ := rr.get qx
                obtain ⟨Fe, re, se⟩ := rr.erase n
                obtain ⟨I2, s2⟩ := I1.write s1 hσ (olOf_some q2) hF hz (vs' := vs.eraseIdx n) (Nat.le_trans (len_erase vs n) hlv) re hnx fun b hb => .inl (se b hb)
                refine ⟨a, vs, j, n, w, rfl, rfl, ha, hb.1, hb.2, by rw [rr.length]; exact qn, hw, ?_⟩
                cases rw' with
                | fz rd => exact k _ _ q1 w Z1 _ _ [] I2 (.fz rd) s2
              | ol _ => simp only [qx] at q1; exact absurd q1 kb
              | sc _ => simp only [qx] at q1; exact absurd q1 kb
              | rg _ _ => simp only [qx] at q1; exact absurd q1 kb
        · exact absurd q1 kb
      | _ => exact absurd q1 kb
def popM (i : Nat) : M OV := fun env => match olOf env i with
  | none => .bad
  | some xs => match xs[xs.length - 1]? with
    | some (.fz d) => .ok (.fz d) (env.set i (some (.ol (xs.eraseIdx (xs.length - 1)))))
    | _ => .bad
theorem sv_pop {i : Nat} {x : Str} {p : Pos} (n : NameOk S i x) (hl : (apos.endLine == cpos.line) = true) : SV S (.Call (.Attribute (.Name x p) "pop" apos) [] [] cpos) (popM i) := .of fun σ env Z H F I Q mm hm k kx kb => by
  refine ⟨tBM0 S.K "list" rPop (tVar i), fun X hX => by
    rw [← hX.K]
    exact pe_bm0 PySem.F.plainAttrs_list PySem.F.slot_list_pop PySem.F.type_list_pop mt_pop (n.pe hX) rfl hl, ?_⟩
  unfold popM at hm
  cases q0 : olOf env i with
  | none => rw [q0] at hm; exact absurd hm kb
  | some xs =>
    rw [q0] at hm
    obtain ⟨a, vs, Fx, hσ, hF, hz, ha, hlv, rr, hnx⟩ := I.olAt (olOf_some q0)
    have hm : mm = (match xs[xs.length - 1]? with | some (.fz d) => .ok (.fz d) (env.set i (some (.ol (xs.eraseIdx (xs.length - 1))))) | _ => .bad) := hm
    cases qx : xs[xs.length - 1]? with
    | none => simp only [qx] at hm; exact absurd hm kb
    | some y =>
      cases y with
      | fz d =>
        simp only [qx] at hm
        obtain ⟨w, Fw, hw, rw', _⟩ := rr.get qx
        obtain ⟨Fe, re, se⟩ := rr.erase (xs.length - 1)
        have hdl : vs.dropLast = vs.eraseIdx (xs.length - 1) := by rw [← rr.length, List.eraseIdx_length_sub_one]
        obtain ⟨I2, s2⟩ := I.write (Stp.refl (Z := Z) (H := H) (F := F)) hσ (olOf_some q0) hF hz (vs' := vs.eraseIdx (xs.length - 1)) (Nat.le_trans (len_erase vs _) hlv) re hnx fun b hb => .inl (se b hb)
        refine ⟨.ref a, hσ, .inl ⟨rfl, _, .inl (.inl ha)⟩, a, vs, w, rfl, rfl, ha, by rw [rr.length]; exact hw, ?_⟩
        rw [hdl]
        cases rw' with
        | fz rd => exact k _ _ hm w Z _ _ [] I2 (.fz rd) s2
      | ol _ => simp only [qx] at hm; exact absurd hm kb
      | sc _ => simp only [qx] at hm; exact absurd hm kb
      | rg _ _ => simp only [qx] at hm; exact absurd hm kb
/-! x[i] = e -/
def setM (j : Nat) (mi me : M PyData) : MS := fun env => (me env).so fun d e1 => match olOf e1 j with
  | none => .bad
  | some _ => (mi e1).so fun di e2 => match olOf e2 j, di with
    | some xs, .int k => (match ixN xs.length k with
      | some n => .nx (e2.set j (some (.ol (xs.set n (.fz d)))))
      | none => .bad)
    | _, _ => .bad
theorem noSwapS {l : Nat} {o i : Expr} {p : Pos} {env : PySem.Env} : swapsWith e (some (.Subscript o i p)) l env = pure false := by
  unfold swapsWith
  cases e <;> rfl
theorem plainAsg {o i : Expr} {env : PySem.Env} {p : Pos} (h : ∀ l u st p, i ≠ .Slice l u st p) : ∀ v, assign (.Subscript o i p) env v = (do
      let ov ← holding [v] (PySem.eval o env)
      let iv ← holding [v, ov] (PySem.eval i env)
      standAt p
      holding [v, ov, iv] (setItem ov iv v)
      release [v, ov, iv] []) := fun v => by
  cases i <;> first | rfl | exact absurd rfl (h _ _ _ _)
theorem ss_set {j : Nat} {x : Str} {p tpos : Pos} {mi me : M PyData} (n : NameOk S j x) (hi : SD S a mi) (he : SD S e me) (hs : ∀ l u st p, a ≠ .Slice l u st p) : SS S own (.Assign [.Subscript (.Name x p) a tpos] e pos) (setM j mi me) := fun σ env Z H F I D w => by
  refine ⟨tAsg (wE S e) (gSub (tVar j) (wE S a) rSetL), fun X hX => ps_asg (pe_w hX) (pg_sub (n.pe hX) (pe_w hX) set_list (plainAsg hs)) (by show swapsWith e (some (.Subscript (.Name x p) a tpos)) pos.line X.env = pure false; exact noSwapS) (by cases e <;> rfl) rfl, ?_⟩
  refine he.so I w rfl fun d e1 v Z1 H1 F1 _ q1 I1 r1 s1 => ?_
  cases q0 : olOf e1 j with
  | none => rw [q0] at q1; exact absurd q1 w.nb
  | some xs0 =>
    rw [q0] at q1
    obtain ⟨a0, vs0, Fx0, hσ, _⟩ := I1.olAt (olOf_some q0)
    refine ⟨.ref a0, hσ, ?_⟩
    have w1 := (w.step s1 .refl).eq q1
    refine hi.so I1 w1 rfl fun di e2 vi Z2 H2 F2 _ q2 I2 r2 s2 => ?_
    cases q3 : olOf e2 j with
    | none => rw [q3] at q2; exact absurd q2 w1.nb
    | some xs =>
      rw [q3] at q2
      cases r2 with
      | int kk =>
        cases qn : ixN xs.length kk with
        | none => simp only [qn] at q2; exact absurd q2 w1.nb
        | some nn =>
          simp only [qn] at q2
          obtain ⟨b0, vs, Fx, hσ1, hF, hz, ha, hlv, rr, hnx⟩ := I2.olAt (olOf_some q3)
          have ea : b0 = a0 := by rw [hσ] at hσ1; cases hσ1; rfl
          subst ea
          obtain ⟨Fe, re, se⟩ := ORs.set (r1.mono s2.zz) nn rr
          obtain ⟨I3, s3⟩ := I2.write s2 hσ (olOf_some q3) hF hz (vs' := vs.set nn v) (by rw [List.length_set]; exact hlv) re hnx fun b hb => .inl (se b hb)
          exact ⟨b0, vs, kk, nn, rfl, rfl, ha, by rw [rr.length]; exact qn, (w1.nx _ q2 σ Z2 _ _ I3 s3 .refl)⟩
      | _ => exact absurd q2 w1.nb
/-! x[i] op= e -/
def rGetL (K : PySem.W.Frag) : V → V → Hp → VK → Prop := fun o i H Q => ∃ p xs k v, o = .ref p ∧ i = .int k ∧ SqL K H p xs ∧ atI xs k = some v ∧ Q v H
theorem get_list {X : Cx} : PGet X (rGetL X.K) := by
  intro pins s σ H o i ov iv Q I ro ri h
  obtain ⟨p, xs, k, z, rfl, rfl, hq, he, q⟩ := h
  cases ro
  obtain ⟨t, rfl⟩ := ri
  obtain ⟨its, r, pl, hz⟩ := I.list hq
  obtain ⟨j, h1, h2, h3, h4, h5⟩ := atI_get he
  obtain ⟨w, ew, rw'⟩ := r.get h2
  have hl := r.length
  have hn := line63
  have fin : EP X pins σ Q w s := ⟨z, H, I, rw', q⟩
  by_cases h0 : 0 ≤ k
  · have hj : k.toNat = j := by
      rw [seqIndex_of h0 h5] at h1
      exact Option.some.inj h1
    exact wpAny_getItem_list pl.isList h0 (by omega) (by rw [hj]; simpa using ew) fin
  · have hj : (k + (its.toArray.size : Int)).toNat = j := by
      rw [seqIndex_neg (by omega) h4] at h1
      rw [List.size_toArray, ← hl]
      exact Option.some.inj h1
    exact wpAny_getItem_list_neg pl.isList (by omega) (by rw [List.size_toArray] <;> omega) (by omega) (by rw [hj]; simpa using ew) fin
/-- op= of two data -/
def iopD (op : Operator) (a b : PyData) : Option PyData := match op, a, b with
  | .Add, .int i, .int j => some (.int (i + j))
  | .Sub, .int i, .int j => some (.int (i - j))
  | .Add, .str i, .str j => if i.length + j.length ≤ sizeLine then some (.str (i ++ j)) else none
  | _, _, _ => none
def wIp (S : Ctx) (op : Operator) : TIp := fun x y H Q => ∃ t : TIp, (∀ X, S.has X → PIp X op t) ∧ t x y H Q
theorem pip_w {op : Operator} {X : Cx} (h : S.has X) : PIp X op (wIp S op) := fun pins s σ H x y v u Q I rx ry ⟨r, p, q⟩ => p X h pins s σ H x y v u Q I rx ry q
theorem iop_ok {op : Operator} {Z H : Hp} {x y : V} {dx dy d : PyData} {Q : VK} (rx : Rp Z x dx) (ry : Rp Z y dy) (h : iopD op dx dy = some d) (k : ∀ v, Rp Z v d → Q v H) : wIp S op x y H Q := by
  cases op with
  | Add =>
    cases rx with
    | int i => cases ry with
      | int j => cases h; exact ⟨_, fun X hX => iop_add, i, j, rfl, rfl, k _ (.int _)⟩
      | _ => cases h
    | str i hi => cases ry with
      | str j hj =>
        simp only [iopD] at h
        split at h
        · rename_i hl
          cases h
          exact ⟨_, fun X hX => iop_add_str, i, j, rfl, rfl, hl, k _ (.str _ (hi.append hj hl))⟩
        · cases h
      | _ => cases h
    | _ => cases ry <;> cases h
  | Sub =>
    cases rx with
    | int i => cases ry with
      | int j => cases h; exact ⟨_, fun X hX => iop_sub, i, j, rfl, rfl, k _ (.int _)⟩
      | _ => cases h
    | _ => cases ry <;> cases h
  | _ => cases rx <;> cases ry <;> cases h
def augSM (j : Nat) (op : Operator) (mi me : M PyData) : MS := fun env => match olOf env j with
  | none => .bad
  | some _ => (mi env).so fun di e1 => match olOf e1 j, di with
    | some xs, .int k => (match atI xs k with
      | some (.fz old) => (me e1).so fun d e2 => (match iopD op old d, olOf e2 j with
        | some z, some ys => (match ixN ys.length k with
          | some n => .nx (e2.set j (some (.ol (ys.set n (.fz z)))))
          | none => .bad)
        | _, _ => .bad)
      | _ => .bad)
    | _, _ => .bad
theorem atI_ors {K : PySem.W.Frag} {Z H : Hp} {vs : List V} {xs : List OV} {Fx : List Addr} {i : Int} {x : OV} (r : ORs K Z H vs xs Fx) (h : atI xs i = some x) : ∃ v F', atI vs i = some v ∧ OR K Z H v x F' ∧ ∀ b, b ∈ F' → b ∈ Fx := by
  unfold atI at h ⊢
  rw [r.length]
  cases q : ixN xs.length i with
  | none => rw [q] at h; cases h
  | some j =>
    rw [q] at h
    exact r.get h
theorem plainAug {i : Expr} (h : ∀ l u st p, i ≠ .Slice l u st p) : ∀ ov iv new, augStore i ov iv new = (do holding [new, ov, iv] (setItem ov iv new); release [new, ov, iv] []; pure .next) := fun ov iv new => by
  cases i <;> first | rfl | exact absurd rfl (h _ _ _ _)
theorem ss_augS {j : Nat} {op : Operator} {x : Str} {p tpos : Pos} {mi me : M PyData} (n : NameOk S j x) (hi : SD S a mi) (he : SD S e me) (hs : ∀ l u st p, a ≠ .Slice l u st p) : SS S own (.AugAssign (.Subscript (.Name x p) a tpos) op e pos) (augSM j op mi me) := fun σ env Z H F I D w => by
  refine ⟨tAugS (tVar j) (wE S a) (wE S e) (rGetL S.K) (wIp S op) rSetL, fun X hX => by
    rw [← hX.K]
    exact ps_augS (n.pe hX) (pe_w hX) get_list (pe_w hX) (pip_w hX) set_list (plainAug hs), ?_⟩
  obtain ⟨mm, hmm⟩ : ∃ mm, mm = augSM j op mi me env := ⟨_, rfl⟩
  rw [← hmm] at w
  unfold augSM at hmm
  cases q0 : olOf env j with
  | none => rw [q0] at hmm; exact absurd hmm w.nb
  | some xs0 =>
    rw [q0] at hmm
    obtain ⟨a0, vs0, Fx0, hσ, _⟩ := I.olAt (olOf_some q0)
    refine ⟨.ref a0, hσ, ?_⟩
    refine hi.so I w hmm fun di e1 vi Z1 H1 F1 _ q1 I1 r1 s1 => ?_
    cases q2 : olOf e1 j with
    | none => rw [q2] at q1; exact absurd q1 w.nb
    | some xs =>
      rw [q2] at q1
      cases r1 with
      | int kk =>
        cases qa : atI xs kk with
        | none => simp only [qa] at q1; exact absurd q1 w.nb
        | some y =>
          cases y with
          | fz old =>
            simp only [qa] at q1
            obtain ⟨b0, vs, Fx, hσ1, hF, hz, ha, hlv, rr, hnx⟩ := I1.olAt (olOf_some q2)
            have ea : b0 = a0 := by rw [hσ] at hσ1; cases hσ1; rfl
            subst ea
            obtain ⟨vo, Fo, ho, ro, _⟩ := atI_ors rr qa
            refine ⟨b0, vs, kk, vo, rfl, rfl, .inl (.inl ha), ho, ?_⟩
            have w1 := (w.step s1 .refl).eq q1
            refine he.so I1 w1 rfl fun d e2 v Z2 H2 F2 _ q3 I2 r2 s2 => ?_
            cases qi : iopD op old d with
            | none => simp only [qi] at q3; exact absurd q3 w1.nb
            | some z =>
              cases q4 : olOf e2 j with
              | none => simp only [qi, q4] at q3; exact absurd q3 w1.nb
              | some ys =>
                simp only [qi, q4] at q3
                cases qn : ixN ys.length kk with
                | none => simp only [qn] at q3; exact absurd q3 w1.nb
                | some nn =>
                  simp only [qn] at q3
                  cases ro with
                  | fz rold =>
                    refine iop_ok (rold.mono s2.zz) r2 qi fun vz rz => ?_
                    obtain ⟨c0, ws, Fy, hσ2, hF2, hz2, ha2, hlv2, rr2, hnx2⟩ := I2.olAt (olOf_some q4)
                    have ec : c0 = b0 := by rw [hσ] at hσ2; cases hσ2; rfl
                    subst ec
                    obtain ⟨Fe, re, se⟩ := ORs.set rz nn rr2
                    obtain ⟨I3, s3⟩ := I2.write s2 hσ (olOf_some q4) hF2 hz2 (vs' := ws.set nn vz) (by rw [List.length_set]; exact hlv2) re hnx2 fun b hb => .inl (se b hb)
                    exact ⟨c0, ws, kk, nn, rfl, rfl, ha2, by rw [rr2.length]; exact qn, w1.nx _ q3 σ Z2 _ _ I3 s3 .refl⟩
          | ol _ => simp only [qa] at q1; exact absurd q1 w.nb
          | sc _ => simp only [qa] at q1; exact absurd q1 w.nb
          | rg _ _ => simp only [qa] at q1; exact absurd q1 w.nb
      | _ => exact absurd q1 w.nb
/-! x op= e -/
def augM (own : List Nat) (i : Nat) (op : Operator) (me : M PyData) : MS := fun env => if own.contains i = true then .bad else match env[i]? with
  | some (some (.fz old)) => (me env).so fun d e1 => (match iopD op old d with
    | some z => if i < e1.length then .nx (e1.set i (some (.fz z))) else .bad
    | none => .bad)
  | _ => .bad
theorem ss_aug {i : Nat} {op : Operator} {x : Str} {p : Pos} {me : M PyData} (n : StoOk S i x) (he : SD S e me) : SS S own (.AugAssign (.Name x p) op e pos) (augM own i op me) := fun σ env Z H F I D w => by
  refine ⟨tAug i (wE S e) (wIp S op), fun X hX => ps_aug (by rw [hX.N]; exact n.nd) (by rw [hX.N]; exact n.at_) (by rw [hX.scope]; exact n.loc) (pe_w hX) (pip_w hX) (by rw [hX.fn, hX.scope]; exact n.fn), ?_⟩
  obtain ⟨mm, hmm⟩ : ∃ mm, mm = augM own i op me env := ⟨_, rfl⟩
  rw [← hmm] at w
  unfold augM at hmm
  split at hmm
  · exact absurd hmm w.nb
  · rename_i ho
    have ho : own.contains i = false := by simpa using ho
    cases q0 : env[i]? with
    | none => simp only [q0] at hmm; exact absurd hmm w.nb
    | some o =>
      cases o with
      | none => simp only [q0] at hmm; exact absurd hmm w.nb
      | some y =>
        cases y with
        | fz old =>
          simp only [q0] at hmm
          obtain ⟨v0, ev, r0⟩ := I.rep i _ q0
          refine ⟨v0, ev, he.so I w hmm fun d e1 v Z1 H1 F1 _ q1 I1 r1 s1 => ?_⟩
          cases qi : iopD op old d with
          | none => rw [qi] at q1; exact absurd q1 w.nb
          | some z =>
            rw [qi] at q1
            have q1 : mm = (if i < e1.length then .nx (e1.set i (some (.fz z))) else .bad) := q1
            split at q1
            · rename_i hi
              generalize hG : F i = G0 at r0
              cases r0 with
              | fz rold =>
                refine iop_ok (rold.mono s1.zz) r1 qi fun vz rz => ?_
                exact w.nx _ q1 _ Z1 H1 _ (I1.put hi (.fz rz) fun _ _ z => by cases z) (s1.trans0 set_stp) (kp_set ho)
            · exact absurd q1 w.nb
        | ol _ => simp only [q0] at hmm; exact absurd hmm w.nb
        | sc _ => simp only [q0] at hmm; exact absurd hmm w.nb
        | rg _ _ => simp only [q0] at hmm; exact absurd hmm w.nb
end

/-! ### a def -/
def outsR : List OV → Env → Env
  | [], _ => []
  | o :: os, e :: env => (if lent o = true then e else none) :: outsR os env
  | _ :: os, [] => none :: outsR os []
def lentOk (own : List Nat) : List OV → Nat → Bool
  | [], _ => true
  | o :: os, i => (!lent o || own.contains i) && lentOk own os (i + 1)
def runB (np nv : Nat) (own : List Nat) (m : MS) : Den := fun ovs => if ovs.length = np ∧ np ≤ nv ∧ lentOk own ovs 0 = true then (match m (ovs.map some ++ List.replicate (nv - np) none) with
    | .ret r env => .ok r (outsR ovs env)
    | .nx env => .ok (.fz .none) (outsR ovs env)
    | .ex x env => .ex x (outsR ovs env)
    | .bad => .bad) else .bad
theorem lentOk_at {own : List Nat} : ∀ {os : List OV} {k i : Nat} {o : OV}, lentOk own os k = true → os[i]? = some o → lent o = true → (k + i) ∈ own
  | o' :: os, k, 0, o, h, e, hl => by
    have e : o' = o := by simpa using e
    subst e
    unfold lentOk at h
    rw [Bool.and_eq_true, hl] at h
    have := h.1
    simp at this
    exact this
  | o' :: os, k, i + 1, o, h, e, hl => by
    unfold lentOk at h
    rw [Bool.and_eq_true] at h
    have := lentOk_at (i := i) h.2 (by simpa using e) hl
    rw [show k + (i + 1) = k + 1 + i by omega]
    exact this
theorem outsR_len : ∀ (os : List OV) (env : Env), (outsR os env).length = os.length
  | [], _ => rfl
  | o :: os, e :: env => by simp [outsR, outsR_len os env]
  | o :: os, [] => by simp [outsR, outsR_len os []]
theorem outsR_at : ∀ {os : List OV} {env : Env} {i : Nat} {x : OV}, (outsR os env)[i]? = some (some x) → env[i]? = some (some x) ∧ ∃ o, os[i]? = some o ∧ lent o = true
  | o :: os, e :: env, 0, x, h => by
    unfold outsR at h
    by_cases q : lent o = true
    · rw [if_pos q] at h; exact ⟨by simpa using h, o, rfl, q⟩
    · rw [if_neg q] at h; simp at h
  | o :: os, e :: env, i + 1, x, h => by
    have := outsR_at (os := os) (env := env) (i := i) (x := x) (by simpa [outsR] using h)
    exact ⟨by simpa using this.1, by simpa using this.2⟩
  | o :: os, [], 0, x, h => by simp [outsR] at h
  | o :: os, [], i + 1, x, h => by
    have := outsR_at (os := os) (env := []) (i := i) (x := x) (by simpa [outsR] using h)
    simp at this
  | [], env, i, x, h => by simp [outsR] at h
theorem SI.padN {K : PySem.W.Frag} {Z H : Hp} {σ : St} {env : Env} {F : Fp} (I : SI K Z H σ env F) (n : Nat) : SI K Z H (σ ++ List.replicate n none) (env ++ List.replicate n none) F := by
  refine ⟨by simp [I.len], I.sub, fun i x e => ?_, fun i h => ?_, I.dis⟩
  · by_cases hi : i < env.length
    · rw [List.getElem?_append_left hi] at e
      obtain ⟨v, e1, r⟩ := I.rep i x e
      exact ⟨v, by rw [List.getElem?_append_left (by rw [I.len]; exact hi)]; exact e1, r⟩
    · rw [List.getElem?_append_right (by omega), List.getElem?_replicate] at e
      split at e <;> cases e
  · refine I.non i fun x e => h x ?_
    rw [List.getElem?_append_left (List.getElem?_eq_some_iff.mp e).1]
    exact e
/-- the parameters' slots behind the body -/
theorem SI.outs {K : PySem.W.Frag} {Z H : Hp} {σ' : St} {env' : Env} {F' : Fp} {vs : List V} {ovs : List OV} {own : List Nat} (I : SI K Z H σ' env' F') (hl : vs.length = ovs.length) (ho : lentOk own ovs 0 = true) (hk : ∀ i, i ∈ own → ∀ v, vs[i]? = some v → σ'[i]? = some (some v)) :
    ∃ F'' : Fp, SI K Z H (vs.map some) (outsR ovs env') F'' ∧ ∀ i b, b ∈ F'' i → b ∈ F' i := by
  refine ⟨fun i => match (outsR ovs env')[i]? with | some (some _) => F' i | _ => [], ⟨by rw [List.length_map, outsR_len, hl], I.sub, fun i x e => ?_, fun i h => ?_, fun i j b hij hb => ?_⟩, fun i b hb => ?_⟩
  · obtain ⟨e1, o, e2, e3⟩ := outsR_at e
    obtain ⟨v', ev, r⟩ := I.rep i x e1
    have hi : i < vs.length := by rw [hl]; exact (List.getElem?_eq_some_iff.mp e2).1
    have hv : vs[i]? = some vs[i] := List.getElem?_eq_getElem hi
    have h0 := hk i (by have := lentOk_at ho e2 e3; simpa using this) _ hv
    rw [h0] at ev
    cases ev
    refine ⟨vs[i], by rw [List.getElem?_map, hv]; rfl, ?_⟩
    simp only [e]
    exact r
  · show (match (outsR ovs env')[i]? with | some (some _) => F' i | _ => []) = []
    cases q : (outsR ovs env')[i]? with
    | none => rfl
    | some o =>
      cases o with
      | none => rfl
      | some x => exact absurd q (h x)
  · have g : ∀ i, b ∈ (match (outsR ovs env')[i]? with | some (some _) => F' i | _ => []) → b ∈ F' i := fun i hb => by
      cases q : (outsR ovs env')[i]? with
      | none => rw [q] at hb; cases hb
      | some o =>
        cases o with
        | none => rw [q] at hb; cases hb
        | some x => rw [q] at hb; exact hb
    exact fun hc => I.dis i j b hij (g i hb) (g j hc)
  · cases q : (outsR ovs env')[i]? with
    | none => simp only [q] at hb; cases hb
    | some o =>
      cases o with
      | none => simp only [q] at hb; cases hb
      | some x => simp only [q] at hb; exact hb
theorem Stp.outs {Z H Z' H' : Hp} {F F' F'' : Fp} {G : List Addr} (s : Stp Z H F Z' H' F' G) (h : ∀ i b, b ∈ F'' i → b ∈ F' i) : Stp Z H F Z' H' F'' G :=
  ⟨s.zz, s.fr, fun b hb => s.gr b (hb.imp id fun ⟨i, z⟩ => ⟨i, h i b z⟩), s.gz, fun i b hb hc => s.gd i b hb (h i b hc)⟩
section
variable {P : Program} {w : World} {K : PySem.W.Frag} {mg : Str → Option Value} {base : Heap} {exr : Exn → Value → Option Addr → Hp → Prop}
/-- the context of a def's body -/
def ctxOf (P : Program) (w : World) (K : PySem.W.Frag) (mg : Str → Option Value) (base : Heap) (exr : Exn → Value → Option Addr → Hp → Prop) (N : List Str) (scope : Scope) (k : Nat) (E : XK) : Ctx :=
  ⟨P, w, K, mg, base, N, scope, fun _ => true, k, fun cls d _ H => E cls d H, true, exr⟩
theorem okN {x qual : Str} {st : Stmt} {f : Addr} {fd : FuncData} {N ps : List Str} {k : Nat} {sp : Sp} (Fn : Fun K x qual st f fd) (Sc : FnScope N ps (defScope st)) (hl : ∀ vs H Q E, sp vs H Q E → vs.length = ps.length)
    (hb : ∀ (cdv : Value) (A : Around) (outer : List PySem.Env) (s : Shared) (H : Hp) (vs : List V) (Q : VK) (E : XK), Room k (A.deeper (PyProof.Rows.envOfC qual (defScope st) s.heap.objs.size f cdv)) → sp vs H Q E →
      ∃ t, PSs (cxOf (L2N.CX P w) P w K mg base N qual (defScope st) f cdv A outer s H E) (defBody st) t ∧ t { nx := fun _ H' => Q .non H', rt := Q } (start N vs) H) : FnOk P w K mg base (L2N.CX P w) (k + 1) f fd ps sp := by
  obtain ⟨oc, od, kV, doc, pm, an, cdv, ct, osl, rfl, lk, hcd⟩ := Fn.ex
  exact fn_of lk hcd Sc hl fun A outer s H vs Q E hr hsp => hb cdv A outer s H vs Q E hr hsp
theorem fn_ok {x qual : Str} {st : Stmt} {f : Addr} {fd : FuncData} {N ps : List Str} {k nv : Nat} {own : List Nat} {m : MS} (Fn : Fun K x qual st f fd) (Sc : FnScope N ps (defScope st)) (hnv : nv = N.length)
    (hb : ∀ E : XK, SSs (ctxOf P w K mg base exr N (defScope st) k E) own (defBody st) m) : FnOk P w K mg base (L2N.CX P w) (k + 1) f fd ps (spOf K exr ps.length (runB ps.length nv own m)) := by
  refine okN Fn Sc (fun vs H Q E h => h.1) fun cdv A outer s H vs Q E hr h => ?_
  obtain ⟨hl, Z, ovs, F, I, kok, kex, knb⟩ := h
  have hlo : vs.length = ovs.length := by have := I.len; simpa using this
  unfold runB at kok kex knb
  by_cases hc : ovs.length = ps.length ∧ ps.length ≤ nv ∧ lentOk own ovs 0 = true
  · simp only [if_pos hc] at kok kex knb
    have hS : (ctxOf P w K mg base exr N (defScope st) k E).has (cxOf (L2N.CX P w) P w K mg base N qual (defScope st) f cdv A outer s H E) :=
      ⟨rfl, rfl, rfl, rfl, rfl, rfl, rfl, rfl, rfl, hr, passes_of rfl, L2N.takes_of rfl rfl rfl rfl, fun _ => ⟨rfl, rfl⟩⟩
    have I0 := I.padN (nv - ps.length)
    have est : L2.start N vs = vs.map some ++ List.replicate (nv - ps.length) none := by unfold L2.start; rw [hnv, hl]
    have keep : ∀ {σ' : St}, Kp own (vs.map some ++ List.replicate (nv - ps.length) none) σ' → ∀ i, i ∈ own → ∀ v, vs[i]? = some v → σ'[i]? = some (some v) := fun {σ'} kp i hi v hv => by
      have hlt : i < (vs.map some).length := by rw [List.length_map]; exact (List.getElem?_eq_some_iff.mp hv).1
      rw [kp i hi, List.getElem?_append_left hlt, List.getElem?_map, hv]; rfl
    refine ⟨wSs _ (defBody st), pss_w hS, ?_⟩
    rw [est]
    refine hb E _ _ Z H F I0 _ ⟨fun env' q σ' Z' H' F' I' s' kp => ?_, fun r env' q v σ' Z' H' F' G I' o' s' kp => ?_, fun x env' q σ' Z' H' F' cls d I' s' kp hx => ?_, fun q => ?_⟩
    · obtain ⟨F'', Io, hsub⟩ := I'.outs hlo hc.2.2 (keep kp)
      exact kok (.fz .none) _ (by rw [q]) .non Z' H' F'' [] Io (.fz .non) (s'.outs hsub)
    · obtain ⟨F'', Io, hsub⟩ := I'.outs hlo hc.2.2 (keep kp)
      exact kok r _ (by rw [q]) v Z' H' F'' G Io o' (s'.outs hsub)
    · obtain ⟨F'', Io, hsub⟩ := I'.outs hlo hc.2.2 (keep kp)
      exact kex x _ (by rw [q]) Z' H' F'' cls d Io (s'.outs hsub) hx
    · exact knb (by rw [q])
  · rw [if_neg hc] at knb
    exact absurd rfl knb
end
end Vi

set_option Elab.async false
set_option linter.all false
set_option maxRecDepth 100000
namespace Vi
open PySem L2
/-! ### a list that lies in an owned list grows: told[0].append(e) -/
section
variable {K : PySem.W.Frag} {Z Z0 H H0 : Hp} {σ : St} {env : Env} {F F0 : Fp} {G : List Addr} {i : Nat}
theorem SI.writeG {b : Addr} {o : HO} {v : V} {x' x0 : OV} {Fn : List Addr} (I : SI K Z H σ env F) (s : Stp Z0 H0 F0 Z H F G) (hσ : σ[i]? = some (some v)) (q : env[i]? = some (some x0)) (hb : b ∈ F i) (hz : Z b = none) (r : OR K Z (upd H b o) v x' Fn)
    (sub : ∀ c, c ∈ Fn → c ∈ F i ∨ c ∈ G) : SI K Z (upd H b o) σ (env.set i (some x')) (setF F i Fn) ∧ Stp Z0 H0 F0 Z (upd H b o) (setF F i Fn) [] := by
  have hi : i < env.length := (List.getElem?_eq_some_iff.mp q).1
  have other : ∀ j c, j ≠ i → c ∈ F j → c ≠ b := fun j c hj hc z => by
    subst z
    exact I.dis j i c hj hc hb
  have J : SI K Z (upd H b o) σ (env.set i none) (setF F i []) := by
    have J0 := I.gone i
    refine ⟨J0.len, fun c u e => ?_, fun j x e => ?_, J0.non, J0.dis⟩
    · rw [upd_ne fun z => by rw [z, hz] at e; cases e]; exact I.sub c u e
    · obtain ⟨u, eu, ru⟩ := J0.rep j x e
      refine ⟨u, eu, ru.mono (Same.refl _) (fun c hc => ?_) fun c hc => (ru.own c hc).1⟩
      by_cases qj : j = i
      · subst qj; rw [setF_same] at hc; cases hc
      · rw [setF_ne qj] at hc; rw [upd_ne (other j c qj hc)]
  have J2 := J.put (i := i) (x := x') (v := v) (by rw [List.length_set]; exact hi) r fun j c hc hd => by
    by_cases qj : j = i
    · subst qj; rw [setF_same] at hd; cases hd
    · rw [setF_ne qj] at hd
      rcases sub c hc with y | y
      · exact I.dis i j c (Ne.symm qj) y hd
      · exact s.gd j c y hd
  rw [set_self hσ, List.set_set, setF_2] at J2
  refine ⟨J2, s.zz, fun c u e hnb => ?_, fun c h => ?_, s.gz, fun _ _ h => by cases h⟩
  · rw [upd_ne fun z => ?_]
    · exact s.fr c u e hnb
    · subst z
      rcases s.gr c (.inr ⟨i, hb⟩) with ⟨m, y⟩ | y
      · exact hnb m y
      · rw [e] at y; cases y
  · rcases h with h | ⟨j, h⟩
    · cases h
    · by_cases qj : j = i
      · subst qj
        rw [setF_same] at h
        rcases sub c h with y | y
        · exact s.gr c (.inr ⟨j, y⟩)
        · exact s.gr c (.inl y)
      · rw [setF_ne qj] at h
        exact s.gr c (.inr ⟨j, h⟩)
/-- the list at place n of an owned list -/
theorem ORs.upd : ∀ {vs : List V} {xs : List OV} {Fx : List Addr} {n : Nat} {ys : List OV}, ORs K Z H vs xs Fx → xs[n]? = some (.ol ys) →
    ∃ (b : Addr) (ws : List V) (Fy : List Addr), vs[n]? = some (.ref b) ∧ Z b = none ∧ H b = some (.lst ws) ∧ ws.length ≤ sizeLine ∧ ORs K Z H ws ys Fy ∧ b ∉ Fy ∧ (∀ c, c ∈ b :: Fy → c ∈ Fx) ∧
    ∀ (H' : Hp) (ws' : List V) (ys' : List OV) (Fy' : List Addr), H' b = some (.lst ws') → (∀ c, c ≠ b → c ∈ Fx → H' c = H c) → ws'.length ≤ sizeLine → ORs K Z H' ws' ys' Fy' → b ∉ Fy' → (∀ c, c ∈ Fy' → c ∈ Fy ∨ c ∉ Fx) →
      ∃ Fx', ORs K Z H' vs (xs.set n (.ol ys')) Fx' ∧ ∀ c, c ∈ Fx' → c ∈ Fx ∨ c ∈ Fy'
  | _, _, _, _, _, .nil, h => by simp at h
  | _, _, _, 0, ys, .cons (x := x0) (F := F) (G := G) q t dj, h => by
    have h : x0 = OV.ol ys := by simpa using h
    subst h
    cases q with
    | @ol b ws _ Fy hz ha hl rr hn =>
      refine ⟨b, ws, Fy, rfl, hz, ha, hl, rr, hn, fun c hc => List.mem_append_left _ hc, fun H' ws' ys' Fy' h1 h2 h3 h4 h5 h6 => ?_⟩
      have tail := t.mono (Z' := Z) (H' := H') (Same.refl _) (fun c hc => h2 c (fun z => by subst z; exact dj c List.mem_cons_self hc) (List.mem_append_right _ hc)) fun c hc => (t.own c hc).1
      refine ⟨(b :: Fy') ++ G, .cons (.ol hz h1 h3 h4 h5) tail fun c hc hd => ?_, fun c hc => ?_⟩
      · rcases List.mem_cons.mp hc with z | z
        · subst z; exact dj c List.mem_cons_self hd
        · rcases h6 c z with y | y
          · exact dj c (List.mem_cons_of_mem _ y) hd
          · exact y (List.mem_append_right _ hd)
      · rcases List.mem_append.mp hc with z | z
        · rcases List.mem_cons.mp z with y | y
          · subst y; exact .inl (List.mem_append_left _ List.mem_cons_self)
          · exact .inr y
        · exact .inl (List.mem_append_right _ z)
  | _, _, _, n + 1, ys, .cons (F := F) (G := G) q t dj, h => by
    obtain ⟨b, ws, Fy, e1, hz, ha, hl, rr, hn, sub, k⟩ := ORs.upd (n := n) t (by simpa using h)
    refine ⟨b, ws, Fy, by simpa using e1, hz, ha, hl, rr, hn, fun c hc => List.mem_append_right _ (sub c hc), fun H' ws' ys' Fy' h1 h2 h3 h4 h5 h6 => ?_⟩
    obtain ⟨Fx', t', hs⟩ := k H' ws' ys' Fy' h1 (fun c hc hd => h2 c hc (List.mem_append_right _ hd)) h3 h4 h5 fun c hc => (h6 c hc).imp id fun y z => y (List.mem_append_right _ z)
    have bF : b ∉ F := fun z => dj b z (sub b List.mem_cons_self)
    have head := q.mono (Z' := Z) (H' := H') (Same.refl _) (fun c hc => h2 c (fun z => bF (by rw [← z]; exact hc)) (List.mem_append_left _ hc)) fun c hc => (q.own c hc).1
    refine ⟨F ++ Fx', .cons head t' fun c hc hd => ?_, fun c hc => ?_⟩
    · rcases hs c hd with y | y
      · exact dj c hc y
      · rcases h6 c y with z | z
        · exact dj c hc (sub c (List.mem_cons_of_mem _ z))
        · exact z (List.mem_append_left _ hc)
    · rcases List.mem_append.mp hc with z | z
      · exact .inl (List.mem_append_left _ z)
      · exact (hs c z).imp (List.mem_append_right _) id
end
def inOf (env : Env) (j n : Nat) : Option (List OV) := match olOf env j with
  | some xs => (match xs[n]? with
    | some (.ol ys) => some ys
    | _ => none)
  | none => none
theorem inOf_some {env : Env} {j n : Nat} {ys : List OV} (h : inOf env j n = some ys) : ∃ xs, env[j]? = some (some (.ol xs)) ∧ olOf env j = some xs ∧ xs[n]? = some (.ol ys) := by
  unfold inOf at h
  cases q : olOf env j with
  | none => rw [q] at h; cases h
  | some xs =>
    rw [q] at h
    have h : (match xs[n]? with | some (.ol ys) => some ys | _ => none) = some ys := h
    refine ⟨xs, olOf_some q, rfl, ?_⟩
    split at h
    · rename_i e; cases h; exact e
    · cases h
def appN (j n : Nat) (d : PyData) : M OV := fun env => match olOf env j, inOf env j n with
  | some xs, some ys => if ys.length < sizeLine then .ok (.fz .none) (env.set j (some (.ol (xs.set n (.ol (ys ++ [.fz d])))))) else .bad
  | _, _ => .bad
section
variable {S : Ctx} {e : Expr} {pos apos cpos spos kpos : Pos}
theorem atI_of {α : Type} {xs : List α} {n : Nat} {x : α} (h : xs[n]? = some x) : atI xs (n : Int) = some x := L2.atI_nat h
theorem sv_appN {j n : Nat} {kk : Nat} {x : Str} {p : Pos} {d : PyData} {u : V} (nm : NameOk S j x) (hd : ∀ H, Rp H u d) (hu : ∀ X : Cx, PE X e (tC u)) (hn : notStar e = true) (hl : (apos.endLine == cpos.line) = true) :
    SV S (.Call (.Attribute (.Subscript (.Name x p) (.Constant (.int (n : Int)) kk kpos) spos) "append" apos) [e] [] cpos) (appN j n d) := .of fun σ env Z H F I Q mm hm k kx kb => by
  have hall : [e].all notStar = true := by rw [List.all_cons, hn]; rfl
  refine ⟨tBM S.K "list" rAppend (tOp (wIx S) (tVar j) (tC (.int (n : Int)))) (tCons (tC u) tNil), fun X hX => by
    rw [← hX.K]
    exact pe_bm PySem.F.plainAttrs_list PySem.F.slot_list_append PySem.F.type_list_append mt_append (pe_ix (ix_w hX) (nm.pe hX) pe_int (plainIx fun l u st p z => by cases z)) (pa_cons (hu X) pa_nil (star_cons hn)) rfl (few_ok hall (by show 1 < 30; decide)) hl (star_cons hn) rfl, ?_⟩
  unfold appN at hm
  cases q0 : olOf env j with
  | none => rw [q0] at hm; exact absurd hm kb
  | some xs =>
    cases q1 : inOf env j n with
    | none => rw [q0, q1] at hm; exact absurd hm kb
    | some ys =>
      rw [q0, q1] at hm
      have hm : mm = (if ys.length < sizeLine then .ok (.fz .none) (env.set j (some (.ol (xs.set n (.ol (ys ++ [.fz d])))))) else .bad) := hm
      split at hm
      · rename_i hlt
        obtain ⟨xs', _, q2, q3⟩ := inOf_some q1
        have ex : xs' = xs := by rw [q0] at q2; exact (Option.some.inj q2).symm
        subst ex
        obtain ⟨a, vs, Fx, hσ, hF, hz, ha, hlv, rr, hnx⟩ := I.olAt (olOf_some q0)
        obtain ⟨b, ws, Fy, e1, hzb, hb, hlw, ry, nby, sub, kk'⟩ := rr.upd q3
        have hwl : ws.length < sizeLine := by rw [ry.length]; exact hlt
        have ab : a ≠ b := fun z => by subst z; exact hnx (sub _ List.mem_cons_self)
        have hH' : ∀ c, c ≠ b → (L2.upd H b (.lst (ws ++ [u]))) c = H c := fun c hc => upd_ne hc
        have ry' : ORs S.K Z (L2.upd H b (.lst (ws ++ [u]))) (ws ++ [u]) (ys ++ [.fz d]) (Fy ++ []) := (ry.mono (Same.refl _) (fun c hc => hH' c fun z => nby (by rw [← z]; exact hc)) fun c hc => (ry.own c hc).1).append (.one (.fz (hd Z))) fun _ _ z => nomatch z
        rw [List.append_nil] at ry'
        obtain ⟨Fx', rx', sx⟩ := kk' _ (ws ++ [u]) _ Fy L2.upd_same (fun c hc _ => hH' c hc) (by rw [List.length_append]; simp; omega) ry' nby fun c hc => .inl hc
        have sx' : ∀ c, c ∈ Fx' → c ∈ Fx := fun c hc => (sx c hc).elim id fun z => sub c (List.mem_cons_of_mem _ z)
        have ro : OR S.K Z (L2.upd H b (.lst (ws ++ [u]))) (.ref a) (.ol (xs'.set n (.ol (ys ++ [.fz d])))) (a :: Fx') := .ol hz ((hH' a ab).trans ha) hlv rx' fun z => hnx (sx' a z)
        obtain ⟨I2, s2⟩ := I.writeG .refl hσ (olOf_some q0) (b := b) (by rw [hF]; exact List.mem_cons_of_mem _ (sub b List.mem_cons_self)) hzb ro fun c hc => .inl (by
          rw [hF]
          rcases List.mem_cons.mp hc with z | z
          · subst z; exact List.mem_cons_self
          · exact List.mem_cons_of_mem _ (sx' c z))
        refine ⟨.ref a, hσ, rIxL S.K, fun X hX => by rw [← hX.K]; exact ix_list, a, vs, (n : Int), .ref b, rfl, rfl, .inl (.inl ha), atI_of e1, .inl ⟨rfl, _, .inl (.inl hb)⟩, ?_⟩
        exact ⟨b, ws, u, rfl, rfl, hb, hwl, k _ _ hm .non Z _ _ [] I2 (.fz .non) s2⟩
      · exact absurd hm kb
/-! ### an owned list is taken out of an owned list, which is given up: first = table[0] -/
def mvixM (j n : Nat) : M OV := fun env => match inOf env j n with
  | some ys => .ok (.ol ys) (env.set j none)
  | none => .bad
theorem sv_mvix {j n : Nat} {kk : Nat} {x : Str} {p : Pos} (nm : NameOk S j x) : SV S (.Subscript (.Name x p) (.Constant (.int (n : Int)) kk kpos) spos) (mvixM j n) := .of fun σ env Z H F I Q mm hm k kx kb => by
  refine ⟨tOp (wIx S) (tVar j) (tC (.int (n : Int))), fun X hX => pe_ix (ix_w hX) (nm.pe hX) pe_int (plainIx fun l u st p z => by cases z), ?_⟩
  unfold mvixM at hm
  cases q1 : inOf env j n with
  | none => rw [q1] at hm; exact absurd hm kb
  | some ys =>
    rw [q1] at hm
    have hm : mm = .ok (.ol ys) (env.set j none) := hm
    obtain ⟨xs, q0, _, q3⟩ := inOf_some q1
    obtain ⟨a, vs, Fx, hσ, hF, hz, ha, hlv, rr, hnx⟩ := I.olAt q0
    obtain ⟨v, F', e1, r, sub⟩ := rr.get q3
    refine ⟨.ref a, hσ, rIxL S.K, fun X hX => by rw [← hX.K]; exact ix_list, a, vs, (n : Int), v, rfl, rfl, .inl (.inl ha), atI_of e1, ?_⟩
    refine k _ _ hm v Z H _ F' (I.gone j) r ?_
    have inF : ∀ b, b ∈ F' → b ∈ F j := fun b hb => by rw [hF]; exact List.mem_cons_of_mem _ (sub b hb)
    refine ⟨Same.refl _, fun b o e hn => e, fun b hb => .inl ?_, fun b hb => .inl hb, fun i b hb hc => ?_⟩
    · rcases hb with hb | ⟨i, hb⟩
      · exact ⟨j, inF b hb⟩
      · by_cases qi : i = j
        · subst qi; rw [setF_same] at hb; cases hb
        · rw [setF_ne qi] at hb; exact ⟨i, hb⟩
    · by_cases qi : i = j
      · subst qi; rw [setF_same] at hc; cases hc
      · rw [setF_ne qi] at hc; exact I.dis j i b (Ne.symm qi) (inF b hb) hc
end
end Vi

set_option Elab.async false
set_option linter.all false
set_option maxRecDepth 100000
namespace Vi
open PySem L2 PyProof.Rows
/-! ### enumerate over a list or a text -/
/-- the signs of a text, each in a new pair with its place -/
def IteS (x : Str) : It :=
  ⟨fun i _ => i < x.cps.size, fun i H v H' => ∃ T c, v = .ref T ∧ H T = none ∧ x.cps[i]? = some c ∧ H' = upd H T (.tup [.int (i : Nat), .str ⟨#[c]⟩]), fun i _ => x.cps.size ≤ i⟩
theorem turn_enumS {P : Program} {w : World} {K : PySem.W.Frag} {elts : List Expr} {kk : Nat} {tpos : Pos} (x : Str) (t : Tok) (e it : Addr) :
    Turn P w K (.Tuple elts kk tpos) (IteS x) [e, it] e (fun i h => e ≠ it ∧ i ≤ x.cps.size ∧ h.IsStrIter it (strIterType x) x t i ∧ ∃ old, IsEnum h e it ((i : Nat) : Int) old) where
  mem := List.mem_cons_self
  obj := fun i h st b hb => by
    obtain ⟨_, _, ⟨o, ho, hc, hd⟩, old, he⟩ := st
    rcases (show b = e ∨ b = it by simpa using hb) with z | z <;> subst z
    · exact ⟨_, he, fun v q => nomatch q⟩
    · exact ⟨o, ho, fun v q => by rw [hd] at q; cases q⟩
  keep := fun i h h' ⟨hne, hl, ⟨o, ho, hc, hd⟩, old, he⟩ k => ⟨hne, hl, ⟨o, k it (by simp) o ho, hc, hd⟩, old, k e (by simp) _ he⟩
  item := by
    intro X hP hw hK hc i pins s σ H E I hf st hg
    subst hP hw hK
    obtain ⟨hne, hle, hit, old, he⟩ := st
    have hel : e < s.heap.objs.size := Heap.lt_size he
    have hil : it < s.heap.objs.size := by obtain ⟨_, q, _⟩ := hit; exact Heap.lt_size q
    have D := Draws.text (prog := X.prog) (w := X.w) (A := X.A.in1) (I.ok.hd hc) it x t
    refine wpAny_pyNext_enum_itemD D he hit hg hne (by simpa using hne) fun y h' tk hP ho hit' hT hsz hk => ⟨_, rfl, ?_⟩
    obtain ⟨c, u, hcc, rfl⟩ := hP
    refine wpAny_letOwnedTupleGo_enum (s := { s with heap := h', toks := tk + 1 }) ho fun h'' he' sb => ?_
    have new : ObjOk X.prog X.w (upd H s.heap.objs.size (.tup [.int (i : Nat), .str ⟨#[c]⟩])) h'' s.heap.objs.size (.tup [.int (i : Nat), .str ⟨#[c]⟩]) :=
      ⟨by show 2 ≤ sizeLine; decide, [.int i tk, .str ⟨#[c]⟩ u], .cons ⟨_, rfl⟩ (.cons ⟨_, rfl⟩ .nil), ⟨_, (sb.2 _ (Nat.ne_of_gt hel)).trans hT, rfl, _, rfl⟩⟩
    have I1 := I.turnedNew (t' := tk + 1) (ch := [e, it]) (fun b ob hb q => (sb.2 b (fun z => hb (by simp [z]))).trans (hk b ob (fun z => hb (by simp [z])) (fun z => hb (by simp [z])) q)) hf (Nat.le_refl _) new
    obtain ⟨o2, ho2, hc2, hd2⟩ := hit'
    refine ⟨.ref s.heap.objs.size, _, I1, rfl, ⟨_, c, rfl, I.hok.fresh (Nat.le_refl _), hcc, rfl⟩, ⟨hne, hg, ⟨o2, (sb.2 it (Ne.symm hne)).trans ho2, hc2, hd2⟩, .str ⟨#[c]⟩ u, ?_⟩, fun b hb => ?_⟩
    · rw [show ((i + 1 : Nat) : Int) = (i : Int) + 1 from rfl]; exact he'
    · have hlt : b < s.heap.objs.size := by rcases (show b = e ∨ b = it by simpa using hb) with z | z <;> subst z <;> assumption
      rw [upd_ne (Nat.ne_of_lt hlt)]; exact (hf b hb).1
  done := by
    intro X hP hw hK hc i pins s σ H E I hf st hg
    subst hP hw hK
    obtain ⟨hne, hle, hit, old, he⟩ := st
    obtain ⟨f0, f1, f2, f3, f4, f5⟩ := hf it (by simp)
    have hi : i = x.cps.size := Nat.le_antisymm hle hg
    subst hi
    exact wpAny_pyNext_enum_endD (Draws.text (prog := X.prog) (w := X.w) (A := X.A.in1) (I.ok.hd hc) it x t) he hit fun h' eb => ⟨rfl, I.turned (t' := s.toks) (fun b o hb q => eb b o hb q) f0 f1 f3 f4 f5⟩
  self := fun A i s Q E ⟨_, _, _, _, he⟩ h => wpAny_pyIter_enum he h
/-- enumerate over a list or a text -/
def iEnumQ (K : PySem.W.Frag) (ta : TA) : TI := fun σ H R => ta σ H fun vs H1 => (∃ a xs, vs = [.ref a] ∧ SqL K H1 a xs ∧ R (Ite K a) H1) ∨ ∃ x, vs = [.str x] ∧ R (IteS x) H1
theorem pi_enumQ {X : Cx} {e : Expr} {ta : TA} {p pos tpos : Pos} {elts : List Expr} {kk : Nat} (hg : Gl X "enumerate") (hm : X.mg "enumerate" = none) (ha : PA X [e] ta) (hs : starEach [e] X.env = [(false, eval e X.env)]) :
    PI X (.Tuple elts kk tpos) (.Call (.Name "enumerate" p) [e] [] pos) (iEnumQ X.K ta) := by
  refine ⟨fun pins s σ H R I h => ?_⟩
  refine Call_ (ld_blt I hg hm boot_enumerate (PyProof.Rows.callWith_type1 (thn (ha.run pos pins s σ H _ I h) fun us s1 got => ?_) hs rfl))
  obtain ⟨vs, H1, I1, r1, ⟨a, xs, ex, hq, q⟩ | ⟨x, ex, q⟩⟩ := got <;> subst ex <;> cases r1 with
  | cons r rr => ?_
  · cases rr; cases r
    obtain ⟨its, rv, pp, hz⟩ := I1.list hq
    exact call_enumerate_list pp.isList fun h' he hit hsz hk => wpAny_pyIter_enum he ⟨_, [s1.heap.objs.size + 1, s1.heap.objs.size], _, _, H1, rfl, I1.kept (t' := s1.toks) hk, turn_enum a (s1.heap.objs.size + 1) s1.heap.objs.size, ⟨⟨.none, he⟩, hit, Nat.succ_ne_self _⟩,
      fun b hb => have hle : s1.heap.objs.size ≤ b := by rcases (show b = s1.heap.objs.size + 1 ∨ b = s1.heap.objs.size by simpa using hb) with z | z <;> rw [z] <;> omega
        I1.fpOk hle (I1.hok.fresh hle), q⟩
  · cases rr
    obtain ⟨u, rfl⟩ := r
    exact call_enumerate_str fun h' he hit hsz hk => wpAny_pyIter_enum he ⟨_, [s1.heap.objs.size + 1, s1.heap.objs.size], _, _, H1, rfl, I1.kept (t' := s1.toks) hk, turn_enumS x u (s1.heap.objs.size + 1) s1.heap.objs.size, ⟨Nat.succ_ne_self _, Nat.zero_le _, hit, .none, he⟩,
      fun b hb => have hle : s1.heap.objs.size ≤ b := by rcases (show b = s1.heap.objs.size + 1 ∨ b = s1.heap.objs.size by simpa using hb) with z | z <;> rw [z] <;> omega
        I1.fpOk hle (I1.hok.fresh hle), q⟩
end Vi

set_option Elab.async false
set_option linter.all false
set_option maxRecDepth 100000
namespace Vi
open PySem L2 PyProof.Rows
/-! ### the least of a list of texts -/
theorem best_txt (num : Nat → List Nat) : ∀ k, argBest (fun i j => decide (num i < num j)) k ≤ k ∧ ∀ j, j ≤ k → num (argBest (fun i j => decide (num i < num j)) k) ≤ num j
  | 0 => ⟨Nat.le_refl _, fun j hj => by obtain rfl : j = 0 := by omega
                                        exact List.le_refl _⟩
  | k + 1 => by
    obtain ⟨h1, h2⟩ := best_txt num k
    unfold argBest
    by_cases hc : num (k + 1) < num (argBest (fun i j => decide (num i < num j)) k)
    · rw [if_pos (decide_eq_true hc)]
      refine ⟨Nat.le_refl _, fun j hj => ?_⟩
      by_cases q : j = k + 1
      · subst q; exact List.le_refl _
      · exact List.le_trans (List.le_of_lt hc) (h2 j (by omega))
    · rw [if_neg (by simpa using hc)]
      refine ⟨by omega, fun j hj => ?_⟩
      by_cases q : j = k + 1
      · subst q; exact List.not_lt.mp hc
      · exact h2 j (by omega)
theorem min_texts {prog : Program} {w : World} {A : Around} {E : Value → Shared → Prop} {s : Shared} {l : Addr} {its : List Value} {num : Nat → Str} {n : Nat} {Q : Value → Shared → Prop} (hh : A.handled = none) (hl : s.heap.IsList l its.toArray)
    (hv : ∀ (i : Nat) (v : Value), its.toArray[i]? = some v → ∃ t, v = .str (num i) t) (hn : its.length = n + 1)
    (h : ∀ h' tk i t', (∀ b o, s.heap.get? b = some o → h'.get? b = some o) → i ≤ n → (∀ j, j ≤ n → (num i).cps.toList ≤ (num j).cps.toList) → Q (.str (num i) t') { s with heap := h', toks := tk }) : wpAny (model prog w) A (call (.builtin "min") [.ref l]) Q E s := by
  have hlt : l < s.heap.objs.size := by obtain ⟨_, e, _⟩ := hl; exact Heap.lt_size e
  have hlI : l ≠ s.heap.objs.size := Nat.ne_of_lt hlt
  refine call_min_walk (wpAny_pyIter_list hl ?_)
  refine ⟨s.heap.objs.size, _, _, _, _, _, fun i j => decide ((num i).cps.toList < (num j).cps.toList), rfl, Walks.list (A := A.in1) hh _ l hlI its.toArray, ⟨⟨_, Heap.get?_push_size _ rfl, rfl, rfl⟩, hl.push _⟩, fun b hb => ?_, by simp [hn], fun i j vi vj s2 Q2 E2 hi hj q => ?_, fun v h' tk hP hk => ?_⟩
  · show b < (s.heap.push _).objs.size
    rw [Heap.size_push]
    rcases (show b = s.heap.objs.size ∨ b = l by simpa using hb) with z | z <;> rw [z]
    · exact Nat.lt_succ_self _
    · exact Nat.lt_succ_of_lt hlt
  · obtain ⟨t, rfl⟩ := hv i vi hi
    obtain ⟨u, rfl⟩ := hv j vj hj
    exact richCompare_gives (op := .Lt) (typeIs_str s2 _ t) (typeIs_str s2 _ u) F.slot_str_lt F.entry_str_lt (F.args_str_lt_2 _ _) (gives_str_lt _ _ t u) (fun x => nomatch x) q
  · obtain ⟨t, rfl⟩ := hv _ v hP
    obtain ⟨b1, b2⟩ := best_txt (fun i => (num i).cps.toList) (its.toArray.size - 1)
    have e : its.toArray.size - 1 = n := by simp [hn]
    rw [e] at b1 b2 ⊢
    refine h h' tk _ t (fun b o q => hk b o (fun hm => ?_) (Heap.get?_push_of_some _ q)) b1 b2
    rw [List.mem_singleton.mp hm] at q
    exact absurd (Heap.lt_size q) (Nat.lt_irrefl _)
def rMinS (K : PySem.W.Frag) : List V → Hp → VK → Prop := fun vs H Q => ∃ (a : Addr) (ns : List Str), vs = [V.ref a] ∧ SqL K H a (ns.map V.str) ∧ ns ≠ [] ∧ ∀ m, m ∈ ns → (∀ y, y ∈ ns → m.cps.toList ≤ y.cps.toList) → Q (.str m) H
theorem cr_minS {X : Cx} (hc : X.calm = true) : CallR X (.builtin "min") (rMinS X.K) := by
  intro pins s σ H vs us Q I r h
  obtain ⟨a, ns, rfl, hs, hne, q⟩ := h
  obtain ⟨its, rv, hl, _⟩ := I.list hs
  have hlen := rv.length
  rw [List.length_map] at hlen
  obtain ⟨n, hn⟩ : ∃ n, ns.length = n + 1 := by
    cases ns with
    | nil => exact absurd rfl hne
    | cons x r => exact ⟨_, rfl⟩
  rw [Vals.ref1 r]
  refine min_texts (num := fun i => ns.getD i Str.empty) (n := n) (I.ok.hd hc) hl.isList (fun i v hv => ?_) (by omega) fun h' tk i t' hk hi hle => ⟨.str _, H, I.kept hk, ⟨_, rfl⟩, q _ ?_ fun y hy => ?_⟩
  · have hv : its[i]? = some v := by simpa using hv
    have hi : i < ns.length := by rw [hlen]; exact (List.getElem?_eq_some_iff.mp hv).1
    obtain ⟨u, hu, ru⟩ := rv.get (i := i) (x := .str ns[i]) (by simp [hi])
    rw [hv] at hu
    cases hu
    obtain ⟨t, rfl⟩ := ru
    exact ⟨t, by rw [List.getD_eq_getElem?_getD, List.getElem?_eq_getElem hi]; rfl⟩
  · rw [List.getD_eq_getElem?_getD, List.getElem?_eq_getElem (by omega)]
    exact List.getElem_mem _
  · obtain ⟨j, hj, rfl⟩ := List.getElem_of_mem hy
    have := hle j (by omega)
    rwa [List.getD_eq_getElem?_getD (i := j), List.getElem?_eq_getElem hj] at this
end Vi

set_option Elab.async false
set_option linter.all false
set_option maxRecDepth 100000
namespace Vi
open PySem L2 PyProof.Rows
/-! ### a list, a text, from behind -/
def revT (y : Str) : Str := ⟨y.cps.toList.reverse.toArray⟩
theorem pick_rev (y : Str) : (PySem.Builtin.Str.strSliceIndices none none (-1) y.length).filterMap (y.cps[·]?) = y.cps.toList.reverse := by
  have e : PySem.Builtin.Str.strSliceIndices none none (-1) y.length = sliceRange ((y.cps.size : Int) - 1) (-1) (-1) := rfl
  rw [e, PySem.W.krv_sliceRange, PySem.W.krv_range, List.filterMap_reverse, PySem.W.krv_all]
def tRevQ (K : PySem.W.Frag) (te : TE) : TE := fun σ H Q => te σ H fun x H1 => (∃ a xs, x = .ref a ∧ SqL K H1 a xs ∧ ∀ p, H1 p = none → Q (.ref p) (upd H1 p (.lst xs.reverse))) ∨ ∃ y, x = .str y ∧ y.length ≤ sizeLine ∧ Q (.str (revT y)) H1
theorem pe_revQ {X : Cx} {e : Expr} {te : TE} {k : Nat} {p1 p2 p3 pos : Pos} (he : PE X e te) : PE X (.Subscript e (.Slice none none (some (.UnaryOp .USub (.Constant (.int 1) k p1) p2)) p3) pos) (tRevQ X.K te) := by
  constructor
  intro pins s σ H Q I h
  refine Subscript_ (thn (he.run pins s σ H _ I h) fun v s1 got => ?_)
  obtain ⟨x, H1, I1, r1, q1⟩ := got
  have hst : PO X (some (.UnaryOp .USub (.Constant (.int 1) k p1) p2)) (tPart (tUn (rU fun i => .int (-i)) (tC (.int 1)))) := po_some (pe_un un_neg pe_int)
  refine wpAny_Slice (thn (po_none.run pins s1 σ H1 (fun o H2 => o = none ∧ H2 = H1) I1 ⟨rfl, rfl⟩) fun vl s2 got2 => ?_)
  obtain ⟨l, H2, I2, pl, rfl, rfl⟩ := got2
  refine thn (po_none.run pins s2 σ H2 (fun o H3 => o = none ∧ H3 = H2) I2 ⟨rfl, rfl⟩) fun vu s3 got3 => ?_
  obtain ⟨u, H3, I3, pu, rfl, rfl⟩ := got3
  refine thn (hst.run pins s3 σ H3 (fun o H4 => o = some (-1) ∧ H4 = H3) I3 ⟨1, rfl, -1, rfl, rfl, rfl⟩) fun vs s4 got4 => ?_
  obtain ⟨o, H4, I4, ps, rfl, rfl⟩ := got4
  generalize hsl : ({ cls := .type "slice", data := .fields #[vl, vu, vs] } : Obj) = slo
  have fr : slo.isFreed = false := by rw [← hsl]; rfl
  have I5 : Inv X pins σ H4 { s4 with heap := s4.heap.push slo } := I4.kept (t' := s4.toks) fun b ob q => Heap.get?_push_of_some _ q
  show wpAny (model X.prog X.w) X.A (subscriptTail e (.Slice none none (some (.UnaryOp .USub (.Constant (.int 1) k p1) p2)) p3) v (.ref s4.heap.objs.size)) (EP X pins σ Q) X.xe { s4 with heap := s4.heap.push slo }
  rcases q1 with ⟨a, xs, rfl, hx, q⟩ | ⟨y, rfl, hy, q⟩
  · cases r1
    obtain ⟨its, r, ht, hz⟩ := I5.list hx
    have hlen := r.length
    refine tail_any (ops := [.ref a, .ref s4.heap.objs.size]) ht.isList.typeIs (PySem.slot_list_getitem.lookup) ?_ (by with_unfolding_all rfl)
    subst hsl
    refine wpAny_getItem_list_slice ht.isList (Heap.IsSliceOf.new _ vl vu vs) pl pu ps (by decide) ?_ (by rw [List.size_toArray]; omega)
    rw [PySem.W.krv_pick]
    have new := I5.laid (t' := s4.toks) (o := .lst xs.reverse) (fun b ob q => Heap.get?_push_of_some { cls := .type "list", data := .seq its.reverse.toArray 0 } q) (Nat.le_refl _) ⟨by rw [List.length_reverse]; exact hz, _, 0, r.reverse, Heap.get?_push_size _ rfl⟩
    exact ⟨.ref _, _, new, rfl, q _ (I5.hok.fresh (Nat.le_refl _))⟩
  · obtain ⟨t, rfl⟩ := r1
    cases pl; cases pu
    cases ps with
    | int _ t3 =>
    subst hsl
    refine tail_any (ops := [.str y t, .ref s4.heap.objs.size]) (typeIs_str _ y t) PySem.F.slot_str_getitem.lookup ?_ (by with_unfolding_all rfl)
    refine wpAny_getItem_str_slice (l := none) (u := none) (st := some (-1, t3)) ⟨_, Heap.get?_push_size _ rfl, rfl, rfl⟩ rfl ?_
    have e : sliceMade y t none none (some (-1, t3)) = .str (revT y) := by
      unfold sliceMade slicePicked
      rw [if_neg (by simp)]
      exact congrArg (fun z => Made.str ⟨z⟩) (congrArg List.toArray (pick_rev y))
    rw [e]
    have hl : (revT y).length = y.length := by show (y.cps.toList.reverse.toArray).size = y.cps.size; simp
    exact ⟨by rw [hl]; exact hy, .str (revT y), _, I5.tok _, ⟨_, rfl⟩, q⟩
end Vi

set_option Elab.async false
set_option linter.all false
set_option maxRecDepth 100000
namespace Vi
open PySem L2
def revD : PyData → Option OV
  | .list xs => some (.ol (xs.reverse.map .fz))
  | .str y => some (.fz (.str (revT y)))
  | _ => none
theorem StrG.rev {y : Str} (h : StrG y) : StrG (revT y) := by
  refine .of ?_ fun c hc => h.mem c (List.mem_reverse.mp hc)
  rw [List.length_reverse, Array.length_toList]; exact h.1
section
variable {S : Ctx} {a : Expr} {ma : M PyData} {pos : Pos}
theorem sv_rev {k0 : Nat} {p1 p2 p3 : Pos} (ha : SD S a ma) : SV S (.Subscript a (.Slice none none (some (.UnaryOp .USub (.Constant (.int 1) k0 p1) p2)) p3) pos) (fun env => (ma env).bind fun d e => Rs.o (revD d) e) := .of fun σ env Z H F I Q mm hm k kx kb => by
  refine ⟨tRevQ S.K (wE S a), fun X hX => by rw [← hX.K]; exact pe_revQ (pe_w hX), ?_⟩
  refine ha.go I hm kx kb fun da e1 va Z1 H1 F1 _ q1 I1 r1 s1 => ?_
  rw [q1] at kb
  obtain ⟨r, hr⟩ := ro_nb kb
  have fin : ∀ v Z' H' G, SI S.K Z' H' σ e1 F1 → OR S.K Z' H' v r G → Stp Z1 H1 F1 Z' H' F1 G → Q v H' := fun v Z' H' G I' o' s' => k r e1 (by rw [q1, hr]; rfl) v Z' H' F1 G I' o' (s1.trans0 s')
  cases r1 with
  | @lst p1 vs1 ds1 h1 l1 rr =>
    obtain rfl : r = .ol (ds1.reverse.map .fz) := (Option.some.inj hr).symm
    refine .inl ⟨p1, vs1, rfl, .inl (.inl (I1.sub _ _ h1)), fun p hp => ?_⟩
    obtain ⟨I', o', s'⟩ := I1.newL hp rr.reverse (by rw [List.length_reverse]; exact l1)
    exact fin _ _ _ _ I' o' s'
  | str z hz =>
    obtain rfl : r = .fz (.str (revT z)) := (Option.some.inj hr).symm
    exact .inr ⟨z, rfl, hz.1, fin _ Z1 H1 [] I1 (.fz (.str _ hz.rev)) .refl⟩
  | _ => cases hr
end
end Vi

set_option Elab.async false
set_option linter.all false
set_option maxRecDepth 100000
namespace Vi
open PySem L2 PyProof.Rows
/-! ### a literal text, its parts replaced -/
theorem pe_repC {X : Cx} {a b c : Str} {k0 k1 k2 : Nat} {p0 p1 p2 apos pos : Pos} (hbc : (b == c) = false) (hl : a.length + (a.length + 1) * c.length ≤ 16777216) (hline : (apos.endLine == pos.line) = true) :
    PE X (.Call (.Attribute (.Constant (.str a) k0 p0) "replace" apos) [.Constant (.str b) k1 p1, .Constant (.str c) k2 p2] [] pos) (tC (.str (Txt.replace a b c))) := by
  constructor
  intro pins s σ H Q I h
  have hb0 : attributeBase (.Constant (.str a) k0 p0) "replace" X.env (eval (.Constant (.str a) k0 p0) X.env) = eval (.Constant (.str a) k0 p0) X.env := rfl
  have hs0 : starEach [.Constant (.str b) k1 p1, .Constant (.str c) k2 p2] X.env = [(false, eval (.Constant (.str b) k1 p1) X.env), (false, eval (.Constant (.str c) k2 p2) X.env)] := rfl
  refine PySem.Call_method2 (o := .Constant (.str a) k0 p0) (e₁ := .Constant (.str b) k1 p1) (e₂ := .Constant (.str c) k2 p2) (name := "replace") (apos := apos) (pos := pos) hb0 hs0 hline ?_
  refine Calls.Constant_str ?_
  refine ⟨"str", _, PySem.F.plainAttrs_str, PySem.F.slot_str_replace, PySem.F.type_str_replace, typeIs_str _ _ _, (fun _ e => nomatch e), Calls.callWith_builtin rfl (Calls.evalArgs_plain (Calls.spliced_cons ?_))⟩
  refine Calls.Constant_str (Calls.spliced_cons (Calls.Constant_str (Calls.spliced_nil ?_)))
  exact PySem.SC.replace (Nat.succ_ne_zero _) (Nat.succ_ne_zero _) (Nat.ne_of_lt (Nat.lt_succ_self _)) hbc hl fun t' k => ⟨.str (Txt.replace a b c), H, I.tok k, ⟨t', rfl⟩, h⟩
end Vi

set_option Elab.async false
set_option linter.all false
set_option maxRecDepth 100000
namespace Vi
open PySem L2 PyProof.Rows
/-! ### pairs of a text and a whole number, sorted -/
def lexTI (p q : Str × Int) : Bool := if p.1 = q.1 then decide (p.2 < q.2) else decide (p.1.cps.toList < q.1.cps.toList)
theorem str_cps {a b : Str} (h : a.cps.toList = b.cps.toList) : a = b := by
  cases a; cases b
  exact congrArg Str.mk (by simpa using congrArg List.toArray h)
theorem lexTI_iff {p q : Str × Int} : lexTI p q = true ↔ p.1.cps.toList < q.1.cps.toList ∨ (p.1 = q.1 ∧ p.2 < q.2) := by
  unfold lexTI
  by_cases e : p.1 = q.1
  · rw [if_pos e, decide_eq_true_eq, e]
    constructor
    · intro h; exact Or.inr ⟨rfl, h⟩
    · rintro (h | h)
      · exact absurd h (List.lt_irrefl _)
      · exact h.2
  · rw [if_neg e, decide_eq_true_eq]
    constructor
    · intro h; exact Or.inl h
    · rintro (h | h)
      · exact h
      · exact absurd h.1 e
theorem lexTI_no {p q : Str × Int} : lexTI p q = false ↔ q.1.cps.toList < p.1.cps.toList ∨ (p.1 = q.1 ∧ q.2 ≤ p.2) := by
  rw [← Bool.not_eq_true, lexTI_iff]
  constructor
  · intro h
    by_cases e : p.1 = q.1
    · exact Or.inr ⟨e, by
        have : ¬ p.2 < q.2 := fun z => h (Or.inr ⟨e, z⟩)
        omega⟩
    · refine Or.inl ?_
      have h1 : ¬ p.1.cps.toList < q.1.cps.toList := fun z => h (Or.inl z)
      rcases List.le_iff_lt_or_eq.mp (List.not_lt.mp h1) with z | z
      · exact z
      · exact absurd (str_cps z.symm) e
  · rintro (h | h) (g | g)
    · exact List.lt_irrefl _ (List.lt_trans h g)
    · rw [g.1] at h; exact List.lt_irrefl _ h
    · rw [h.1] at g; exact List.lt_irrefl _ g
    · omega
theorem swo_TI {α : Type} (k : α → Str × Int) : ∀ x y : α, lexTI (k x) (k y) = true → lexTI (k y) (k x) = false := fun x y h => by
  rw [lexTI_iff] at h
  rw [lexTI_no]
  rcases h with h | h
  · exact Or.inl h
  · exact Or.inr ⟨h.1.symm, by omega⟩
theorem swo_TI2 {α : Type} (k : α → Str × Int) : ∀ x y z : α, lexTI (k x) (k y) = false → lexTI (k y) (k z) = false → lexTI (k x) (k z) = false := fun x y z h1 h2 => by
  rw [lexTI_no] at h1 h2 ⊢
  rcases h1 with h1 | h1 <;> rcases h2 with h2 | h2
  · exact Or.inl (List.lt_trans h2 h1)
  · rw [← h2.1]; exact Or.inl h1
  · rw [h1.1]; exact Or.inl h2
  · exact Or.inr ⟨h1.1.trans h2.1, by omega⟩
/-- v is a tuple of a text and an int in the heap -/
def IsTI (h : Heap) (v : Value) (x : Str × Int) : Prop := ∃ a o t u n, v = .ref a ∧ h.get? a = some o ∧ o.cls = .type "tuple" ∧ o.data = .seq #[.str x.1 t, .int x.2 u] n
theorem IsTI.keeps {h h' : Heap} {v : Value} {x : Str × Int} (p : IsTI h v x) (k : ∀ b o, h.get? b = some o → o.cls = .type "tuple" → h'.get? b = some o) : IsTI h' v x := by
  obtain ⟨a, o, t, u, n, e, ho, hc, hd⟩ := p
  exact ⟨a, o, t, u, n, e, k a o ho hc, hc, hd⟩
theorem firsts_TI {h : Heap} {k : Value → Str × Int} : ∀ {vs : List Value}, (∀ v ∈ vs, IsTI h v (k v)) → ∃ fs : List Value, PySem.W.KatTups h vs fs ∧ fs.length = vs.length ∧ ∀ f ∈ fs, ∃ x t, f = Value.str x t
  | [], _ => ⟨[], PySem.W.KatTups.nil, rfl, fun f hm => by cases hm⟩
  | v :: vs, hp => by
    obtain ⟨fs, h1, h2, h3⟩ := firsts_TI (vs := vs) fun v' hm => hp v' (List.mem_cons_of_mem _ hm)
    obtain ⟨a, o, t, u, n, rfl, ho, hc, hd⟩ := hp v List.mem_cons_self
    exact ⟨.str (k (.ref a)).1 t :: fs, PySem.W.KatTups.cons ho hc hd rfl h1, by simp [h2], fun f hm => (List.mem_cons.mp hm).elim (fun e => ⟨_, _, e⟩) (h3 f)⟩
section
variable {prog : Program} {w : World} {A : Around} {E : Value → Shared → Prop} {s : Shared}
theorem cmp_TI {vs : List Value} {k : Value → Str × Int} (hp : ∀ v ∈ vs, IsTI s.heap v (k v)) : SrtO.Cmp prog w A s (tuples' true) (fun p => p.1 ∈ vs) (SrtO.lt2 fun v u => lexTI (k v) (k u)) := by
  intro p q hm hm'
  have h1 := hp _ hm
  have h2 := hp _ hm'
  show wpAny (model prog w) A (keyLt' (tuples' true) p.1 q.1) (fun r s' => s' = s ∧ r = lexTI (k p.1) (k q.1)) (fun _ _ => False) s
  unfold lexTI
  generalize k p.1 = x at h1 ⊢
  generalize k q.1 = x' at h2 ⊢
  obtain ⟨x, y⟩ := x
  obtain ⟨x', y'⟩ := x'
  obtain ⟨a, o, t, u, n, e, ho, hc, hd⟩ := h1
  obtain ⟨a', o', t', u', n', e', ho', hc', hd'⟩ := h2
  rw [e, e']
  refine PySem.W.kat_lt ho hd ho' hd' ?_
  show PySem.W.KatLex prog w A true (decide (2 < 2)) _ [(.str x t, .str x' t'), (.int y u, .int y' u')] 0 s
  refine PySem.W.kat_cons (SeqAt.EqAt.str_str x t x' t' prog w _ _ (PySem.W.kat_go (fun e1 => ?_) fun e1 => ?_))
  · have ex : x = x' := by simpa using e1
    refine PySem.W.kat_yes (PySem.W.kat_cons (SeqAt.EqAt.int_int y u y' u' prog w _ _ (PySem.W.kat_go (fun e2 => ?_) fun e2 => ?_)))
    · have ey : y = y' := by simpa using e2
      refine PySem.W.kat_yes (PySem.W.kat_nil ⟨rfl, ?_⟩)
      rw [if_pos ex, ey]
      exact (decide_eq_false (Int.lt_irrefl _)).symm
    · refine PySem.W.kat_no (PySem.W.kat_one _ _ (PyProof.Rows.lt_int ?_))
      show s = s ∧ decide (y < y') = _
      rw [if_pos ex]
      exact ⟨rfl, rfl⟩
  · have ex : ¬ x = x' := by simpa using e1
    refine PySem.W.kat_no (oneLt_str ?_)
    show s = s ∧ decide (x.cps.toList < x'.cps.toList) = _
    rw [if_neg ex]
    exact ⟨rfl, rfl⟩
theorem sortable_TI {a : Addr} {vs : List Value} {k : Value → Str × Int} (h0 : 0 < vs.length) (hp : ∀ v ∈ vs, IsTI s.heap v (k v)) (ha : ∀ o, s.heap.get? a = some o → o.cls ≠ .type "tuple") : SrtO.SortableO prog w A s a vs fun v u => lexTI (k v) (k u) := by
  intro h' keep
  have hp' : ∀ v ∈ vs, IsTI h' v (k v) := fun v hm => (hp v hm).keeps fun b o e c => keep b o (fun z => ha o (z ▸ e) c) e
  obtain ⟨fs, h1, h2, h3⟩ := firsts_TI hp'
  refine ⟨tuples' true, fun Q E hq => PySem.W.kat_kind (T := .type "str") h1 (by omega) (fun f hm => ?_) (by rfl) ?_, cmp_TI hp'⟩
  · obtain ⟨x, t, rfl⟩ := h3 f hm
    exact PySem.W.Looks.now
  · have e : (Value.type "str" != Value.type "tuple") = true := by first | decide +kernel | rfl | decide
    rw [e]; exact hq
theorem sorted_TI {l : Addr} {vs : List Value} {k : Value → Str × Int} {Q : Value → Shared → Prop} (hl : s.heap.IsList l vs.toArray) (hz : vs.length ≤ sizeLine) (hp : ∀ v ∈ vs, IsTI s.heap v (k v))
    (h : ∀ (h' : Heap) (d : Addr) (out : List Value), SrtO.Srtd (fun v u => lexTI (k v) (k u)) out → SrtO.Stb (fun v u => lexTI (k v) (k u)) out vs → (∀ b o, s.heap.get? b = some o → h'.get? b = some o) → s.heap.objs.size ≤ d → (∃ n, h'.get? d = some (seqObj "list" out.toArray n)) → Q (.ref d) { s with heap := h' }) :
    wpAny (model prog w) A (call (.builtin "sorted") [.ref l]) Q E s := by
  refine SrtO.sorted_ord (ltv := fun v u => lexTI (k v) (k u)) ⟨swo_TI k, fun x y z h1 h2 => swo_TI2 k z y x h2 h1⟩ hl hz (fun h2 h₁ a ha kk => ?_) fun out hs hb => h _ _ out hs hb (fun b o e => sortedAll_old e) (Nat.le_succ _) (sortedAll_at s.heap vs out.toArray)
  refine sortable_TI (s := { s with heap := h₁ }) (by omega) (fun v hm => (hp v hm).keeps fun b o e _ => (kk b o e).2) fun o e c => ?_
  have e' : some o = some (seqObj "list" vs.toArray 0) := e.symm.trans ha
  cases e'
  exact absurd (Value.type.inj c) (by decide)
end
/-- sorted(xs), xs a list of pairs of a text and an int -/
def rSortedTI (K : PySem.W.Frag) : List V → Hp → VK → Prop := fun vs H Q => ∃ (a : Addr) (xs : List V) (k : V → Str × Int), vs = [V.ref a] ∧ SqL K H a xs ∧ (∀ x ∈ xs, ∃ t, x = V.ref t ∧ H t = some (.tup [.str (k x).1, .int (k x).2])) ∧
  ∀ ys p, ys.Pairwise (fun x y => lexTI (k y) (k x) = false) → ys.Perm xs → H p = none → Q (.ref p) (upd H p (.lst ys))
theorem cr_sortedTI {X : Cx} : CallR X (.builtin "sorted") (rSortedTI X.K) := by
  intro pins s σ H vs us Q I r h
  obtain ⟨a, xs, k, rfl, hs, hx, q⟩ := h
  obtain ⟨its, rv, hl, hz⟩ := I.list hs
  rw [Vals.ref1 r]
  obtain ⟨e1, e2⟩ := refs_back rv fun x m => (hx x m).imp fun t e => e.1
  refine sorted_TI (k := fun u => k (backV u)) hl.isList (by rw [← rv.length]; exact hz) (fun v hv => ?_) fun h' d out h1 h2 kp hd hn => ?_
  · obtain ⟨t, rfl⟩ := e2 v hv
    obtain ⟨t', e, ht⟩ := hx (V.ref t) (by rw [e1]; exact List.mem_map.mpr ⟨_, hv, rfl⟩)
    cases e
    obtain ⟨_, its2, r2, o, ho, hc, n, hdd⟩ := I.hok _ _ ht
    obtain ⟨u1, u2, rfl, ri, rj⟩ := vals2 r2
    obtain ⟨t1, rfl⟩ := ri
    obtain ⟨t2, rfl⟩ := rj
    exact ⟨t, o, t1, t2, n, rfl, ho, hc, hdd⟩
  · have h3 : ∀ u ∈ out, ∃ a, u = Value.ref a := fun u hu => e2 u (h2.perm.mem_iff.mp hu)
    obtain ⟨n, hn⟩ := hn
    have pm : (out.map backV).Perm xs := by rw [e1]; exact h2.perm.map _
    exact ⟨.ref d, upd H d (.lst (out.map backV)), I.laid (t' := s.toks) kp hd ⟨by rw [pm.length_eq]; exact hz, out, n, vals_back h3, hn⟩, rfl, q _ d (List.pairwise_map.mpr h1) pm (I.hok.fresh hd)⟩
end Vi

set_option Elab.async false
set_option linter.all false
set_option maxRecDepth 100000
namespace Vi
open PySem PySem.Spec L2

/-! ### lists of numbers, truth values, texts -/
def intsOf : List PyData → Option (List Int)
  | [] => some []
  | .int i :: r => (intsOf r).map (i :: ·)
  | _ :: _ => none
def bolsOf : List PyData → Option (List Bool)
  | [] => some []
  | .bool i :: r => (bolsOf r).map (i :: ·)
  | _ :: _ => none
def strsOf : List PyData → Option (List Str)
  | [] => some []
  | .str i :: r => (strsOf r).map (i :: ·)
  | _ :: _ => none
theorem rps_ints {H : Hp} : ∀ {vs : List V} {ds : List PyData} {ns : List Int}, Rps H vs ds → intsOf ds = some ns → vs = ns.map V.int ∧ ds = ns.map PyData.int
  | _, _, _, .nil, h => by cases h; exact ⟨rfl, rfl⟩
  | _, d :: ds, _, .cons r t, h => by
    cases r with
    | int i =>
      have h : (intsOf ds).map (i :: ·) = some _ := h
      cases q : intsOf ds with
      | none => rw [q] at h; cases h
      | some ms =>
        rw [q] at h; cases h
        obtain ⟨e1, e2⟩ := rps_ints t q
        exact ⟨by rw [e1]; rfl, by rw [e2]; rfl⟩
    | _ => cases h
theorem rps_bols {H : Hp} : ∀ {vs : List V} {ds : List PyData} {ns : List Bool}, Rps H vs ds → bolsOf ds = some ns → vs = ns.map V.bl
  | _, _, _, .nil, h => by cases h; rfl
  | _, d :: ds, _, .cons r t, h => by
    cases r with
    | bl i =>
      have h : (bolsOf ds).map (i :: ·) = some _ := h
      cases q : bolsOf ds with
      | none => rw [q] at h; cases h
      | some ms => rw [q] at h; cases h; rw [rps_bols t q]; rfl
    | _ => cases h
theorem rps_strs {H : Hp} : ∀ {vs : List V} {ds : List PyData} {ns : List Str}, Rps H vs ds → strsOf ds = some ns → vs = ns.map V.str ∧ ∀ x ∈ ns, StrG x
  | _, _, _, .nil, h => by cases h; exact ⟨rfl, fun x z => by cases z⟩
  | _, d :: ds, _, .cons r t, h => by
    cases r with
    | str i g =>
      have h : (strsOf ds).map (i :: ·) = some _ := h
      cases q : strsOf ds with
      | none => rw [q] at h; cases h
      | some ms =>
        rw [q] at h; cases h
        obtain ⟨e1, e2⟩ := rps_strs t q
        refine ⟨by rw [e1]; rfl, fun x hx => ?_⟩
        rcases List.mem_cons.mp hx with z | z
        · rw [z]; exact g
        · exact e2 x z
    | _ => cases h
theorem ints_rps {H : Hp} : ∀ ns : List Int, Rps H (ns.map V.int) (ns.map PyData.int)
  | [] => .nil
  | i :: ns => .cons (.int i) (ints_rps ns)
theorem strs_rps {H : Hp} : ∀ ns : List Str, (∀ x ∈ ns, StrG x) → Rps H (ns.map V.str) (ns.map PyData.str)
  | [], _ => .nil
  | i :: ns, h => .cons (.str i (h i List.mem_cons_self)) (strs_rps ns fun x hx => h x (List.mem_cons_of_mem _ hx))
/-! sorting -/
def insI (x : Int) : List Int → List Int
  | [] => [x]
  | y :: r => if x ≤ y then x :: y :: r else y :: insI x r
def isortI : List Int → List Int
  | [] => []
  | x :: r => insI x (isortI r)
theorem insI_perm (x : Int) : ∀ l : List Int, (insI x l).Perm (x :: l)
  | [] => .refl _
  | y :: r => by
    unfold insI
    split
    · exact .refl _
    · exact ((insI_perm x r).cons y).trans (.swap x y r)
theorem isortI_perm : ∀ l : List Int, (isortI l).Perm l
  | [] => .refl _
  | x :: r => (insI_perm x (isortI r)).trans ((isortI_perm r).cons x)
theorem insI_sorted (x : Int) : ∀ {l : List Int}, l.Pairwise (· ≤ ·) → (insI x l).Pairwise (· ≤ ·)
  | [], _ => by unfold insI; exact List.pairwise_singleton _ _
  | y :: r, h => by
    unfold insI
    rw [List.pairwise_cons] at h
    split
    · rename_i hxy
      refine List.pairwise_cons.mpr ⟨fun z hz => ?_, List.pairwise_cons.mpr h⟩
      rcases List.mem_cons.mp hz with e | e
      · subst e; exact hxy
      · exact Int.le_trans hxy (h.1 z e)
    · rename_i hxy
      refine List.pairwise_cons.mpr ⟨fun z hz => ?_, insI_sorted x h.2⟩
      rcases List.mem_cons.mp ((insI_perm x r).mem_iff.mp hz) with e | e
      · subst e; omega
      · exact h.1 z e
theorem isortI_sorted : ∀ l : List Int, (isortI l).Pairwise (· ≤ ·)
  | [] => .nil
  | x :: r => insI_sorted x (isortI_sorted r)
theorem sortedI_unique {l m : List Int} (p : l.Perm m) (hl : l.Pairwise (· ≤ ·)) (hm : m.Pairwise (· ≤ ·)) : l = m := by
  refine p.eq_of_pairwise (le := (· ≤ ·)) (fun a b _ _ h1 h2 => Int.le_antisymm h1 h2) hl hm
/-- texts by their signs -/
def leS (x y : Str) : Bool := !decide (y.cps.toList < x.cps.toList)
def insS (x : Str) : List Str → List Str
  | [] => [x]
  | y :: r => if leS x y = true then x :: y :: r else y :: insS x r
def isortS : List Str → List Str
  | [] => []
  | x :: r => insS x (isortS r)
theorem insS_perm (x : Str) : ∀ l : List Str, (insS x l).Perm (x :: l)
  | [] => .refl _
  | y :: r => by
    unfold insS
    split
    · exact .refl _
    · exact ((insS_perm x r).cons y).trans (.swap x y r)
theorem isortS_perm : ∀ l : List Str, (isortS l).Perm l
  | [] => .refl _
  | x :: r => (insS_perm x (isortS r)).trans ((isortS_perm r).cons x)
theorem leS_iff {x y : Str} : leS x y = true ↔ x.cps.toList ≤ y.cps.toList := by
  unfold leS
  simp only [Bool.not_eq_true', decide_eq_false_iff_not]
  exact List.not_lt
theorem leS_total {x y : Str} (h : ¬ leS x y = true) : leS y x = true := by
  rw [leS_iff] at h ⊢
  exact (List.le_total _ _).resolve_left h
theorem leS_trans {x y z : Str} (h1 : leS x y = true) (h2 : leS y z = true) : leS x z = true := by
  rw [leS_iff] at *
  exact List.le_trans h1 h2
theorem leS_antisymm {x y : Str} (h1 : leS x y = true) (h2 : leS y x = true) : x = y := by
  rw [leS_iff] at *
  have := List.le_antisymm h1 h2
  cases x; cases y
  exact congrArg Str.mk (by simpa using congrArg List.toArray this)
theorem insS_sorted (x : Str) : ∀ {l : List Str}, l.Pairwise (fun a b => leS a b = true) → (insS x l).Pairwise (fun a b => leS a b = true)
  | [], _ => by unfold insS; exact List.pairwise_singleton _ _
  | y :: r, h => by
    unfold insS
    rw [List.pairwise_cons] at h
    split
    · rename_i hxy
      refine List.pairwise_cons.mpr ⟨fun z hz => ?_, List.pairwise_cons.mpr h⟩
      rcases List.mem_cons.mp hz with e | e
      · subst e; exact hxy
      · exact leS_trans hxy (h.1 z e)
    · rename_i hxy
      refine List.pairwise_cons.mpr ⟨fun z hz => ?_, insS_sorted x h.2⟩
      rcases List.mem_cons.mp ((insS_perm x r).mem_iff.mp hz) with e | e
      · subst e; exact leS_total hxy
      · exact h.1 z e
theorem isortS_sorted : ∀ l : List Str, (isortS l).Pairwise (fun a b => leS a b = true)
  | [] => .nil
  | x :: r => insS_sorted x (isortS_sorted r)
theorem sortedS_unique {l m : List Str} (p : l.Perm m) (hl : l.Pairwise (fun a b => leS a b = true)) (hm : m.Pairwise (fun a b => leS a b = true)) : l = m :=
  p.eq_of_pairwise (le := fun a b => leS a b = true) (fun a b _ _ h1 h2 => leS_antisymm h1 h2) hl hm
/-! the greatest, the least -/
def maxI : List Int → Option Int
  | [] => none
  | x :: r => some (r.foldl (fun a b => if b > a then b else a) x)
def minI : List Int → Option Int
  | [] => none
  | x :: r => some (r.foldl (fun a b => if b < a then b else a) x)
theorem maxI_spec : ∀ (r : List Int) (x : Int), (r.foldl (fun a b => if b > a then b else a) x) ∈ x :: r ∧ ∀ y ∈ x :: r, y ≤ r.foldl (fun a b => if b > a then b else a) x
  | [], x => ⟨by simp, fun y hy => by simp at hy; subst hy; exact Int.le_refl _⟩
  | z :: r, x => by
    obtain ⟨h1, h2⟩ := maxI_spec r (if z > x then z else x)
    rw [List.foldl_cons]
    refine ⟨?_, fun y hy => ?_⟩
    · rcases List.mem_cons.mp h1 with e | e
      · rw [e]; split <;> simp
      · exact List.mem_cons_of_mem _ (List.mem_cons_of_mem _ e)
    · have h0 := h2 _ List.mem_cons_self
      rcases List.mem_cons.mp hy with e | e
      · subst e; refine Int.le_trans ?_ h0; split <;> omega
      · rcases List.mem_cons.mp e with e | e
        · subst e; refine Int.le_trans ?_ h0; split <;> omega
        · exact h2 y (List.mem_cons_of_mem _ e)
theorem minI_spec : ∀ (r : List Int) (x : Int), (r.foldl (fun a b => if b < a then b else a) x) ∈ x :: r ∧ ∀ y ∈ x :: r, r.foldl (fun a b => if b < a then b else a) x ≤ y
  | [], x => ⟨by simp, fun y hy => by simp at hy; subst hy; exact Int.le_refl _⟩
  | z :: r, x => by
    obtain ⟨h1, h2⟩ := minI_spec r (if z < x then z else x)
    rw [List.foldl_cons]
    refine ⟨?_, fun y hy => ?_⟩
    · rcases List.mem_cons.mp h1 with e | e
      · rw [e]; split <;> simp
      · exact List.mem_cons_of_mem _ (List.mem_cons_of_mem _ e)
    · have h0 := h2 _ List.mem_cons_self
      rcases List.mem_cons.mp hy with e | e
      · subst e; refine Int.le_trans h0 ?_; split <;> omega
      · rcases List.mem_cons.mp e with e | e
        · subst e; refine Int.le_trans h0 ?_; split <;> omega
        · exact h2 y (List.mem_cons_of_mem _ e)

/-- pairs of a text and a whole number -/
def tupP (p : Str × Int) : PyData := .tuple [.str p.1, .int p.2]
def prsOf : List PyData → Option (List (Str × Int))
  | [] => some []
  | .tuple [.str x, .int i] :: r => (prsOf r).map ((x, i) :: ·)
  | _ => none
def insP (x : Str × Int) : List (Str × Int) → List (Str × Int)
  | [] => [x]
  | y :: r => if lexTI y x = false then x :: y :: r else y :: insP x r
def isortP : List (Str × Int) → List (Str × Int)
  | [] => []
  | x :: r => insP x (isortP r)
theorem insP_perm (x : Str × Int) : ∀ l : List (Str × Int), (insP x l).Perm (x :: l)
  | [] => .refl _
  | y :: r => by
    unfold insP
    split
    · exact .refl _
    · exact ((insP_perm x r).cons y).trans (.swap x y r)
theorem isortP_perm : ∀ l : List (Str × Int), (isortP l).Perm l
  | [] => .refl _
  | x :: r => (insP_perm x (isortP r)).trans ((isortP_perm r).cons x)
theorem insP_sorted (x : Str × Int) : ∀ {l : List (Str × Int)}, l.Pairwise (fun a b => lexTI b a = false) → (insP x l).Pairwise (fun a b => lexTI b a = false)
  | [], _ => by unfold insP; exact List.pairwise_singleton _ _
  | y :: r, h => by
    unfold insP
    rw [List.pairwise_cons] at h
    split
    · rename_i hxy
      refine List.pairwise_cons.mpr ⟨fun z hz => ?_, List.pairwise_cons.mpr h⟩
      rcases List.mem_cons.mp hz with e | e
      · subst e; exact hxy
      · exact swo_TI2 id z y x (h.1 z e) hxy
    · rename_i hxy
      refine List.pairwise_cons.mpr ⟨fun z hz => ?_, insP_sorted x h.2⟩
      rcases List.mem_cons.mp ((insP_perm x r).mem_iff.mp hz) with e | e
      · subst e; exact swo_TI id y z (by simpa using hxy)
      · exact h.1 z e
theorem isortP_sorted : ∀ l : List (Str × Int), (isortP l).Pairwise (fun a b => lexTI b a = false)
  | [] => .nil
  | x :: r => insP_sorted x (isortP_sorted r)
theorem lexTI_anti {p q : Str × Int} (h1 : lexTI q p = false) (h2 : lexTI p q = false) : p = q := by
  rw [lexTI_no] at h1 h2
  rcases h1 with h1 | h1
  · rcases h2 with h2 | h2
    · exact absurd (List.lt_trans h1 h2) (List.lt_irrefl _)
    · rw [h2.1] at h1; exact absurd h1 (List.lt_irrefl _)
  · rcases h2 with h2 | h2
    · rw [h1.1] at h2; exact absurd h2 (List.lt_irrefl _)
    · exact Prod.ext h2.1 (by omega)
theorem sortedP_unique {l m : List (Str × Int)} (p : l.Perm m) (hl : l.Pairwise (fun a b => lexTI b a = false)) (hm : m.Pairwise (fun a b => lexTI b a = false)) : l = m :=
  p.eq_of_pairwise (le := fun a b => lexTI b a = false) (fun a b _ _ h1 h2 => lexTI_anti h1 h2) hl hm
/-- the pair that a value stands for -/
def pairAt (Z : Hp) : V → Str × Int
  | .ref t => (match Z t with
    | some (.tup [.str x, .int i]) => (x, i)
    | _ => (Str.empty, 0))
  | _ => (Str.empty, 0)
theorem rps_prs {Z : Hp} : ∀ {vs : List V} {ds : List PyData} {ps : List (Str × Int)}, Rps Z vs ds → prsOf ds = some ps → vs.map (pairAt Z) = ps ∧ ∀ v ∈ vs, Rp Z v (tupP (pairAt Z v)) ∧ ∃ t, v = .ref t ∧ Z t = some (.tup [.str (pairAt Z v).1, .int (pairAt Z v).2])
  | [], [], ps, _, h => by cases h; exact ⟨rfl, fun v hv => by cases hv⟩
  | v :: vs, d :: ds, ps, .cons r rr, h => by
    unfold prsOf at h
    split at h
    · rename_i heq; cases heq
    · rename_i x i r' heq
      cases heq
      cases q : prsOf ds with
      | none => rw [q] at h; cases h
      | some ps' =>
        rw [q] at h
        cases h
        obtain ⟨g1, g2⟩ := rps_prs rr q
        cases r with
        | @tup t ws es hz hl rw' =>
          obtain ⟨a, b, rfl, ra, rb⟩ := rw'.two
          cases ra with
          | str _ hx =>
          cases rb
          have pa : pairAt Z (.ref t) = (x, i) := by unfold pairAt; simp only [hz]
          refine ⟨by rw [List.map_cons, g1, pa], fun v hv => ?_⟩
          rcases List.mem_cons.mp hv with e | e
          · subst e
            rw [pa]
            exact ⟨.tup hz hl (.cons (.str _ hx) (.cons (.int _) .nil)), t, rfl, hz⟩
          · exact g2 v e
    · cases h
/-- the least of texts -/
def minS : List Str → Option Str
  | [] => none
  | x :: r => some (r.foldl (fun a b => if leS a b = true then a else b) x)
theorem leS_refl {x : Str} : leS x x = true := leS_iff.mpr (List.le_refl _)
theorem minS_spec : ∀ (r : List Str) (x : Str), (r.foldl (fun a b => if leS a b = true then a else b) x) ∈ x :: r ∧ ∀ y ∈ x :: r, leS (r.foldl (fun a b => if leS a b = true then a else b) x) y = true
  | [], x => ⟨by simp, fun y hy => by simp at hy; subst hy; exact leS_refl⟩
  | z :: r, x => by
    obtain ⟨h1, h2⟩ := minS_spec r (if leS x z = true then x else z)
    rw [List.foldl_cons]
    have h0 := h2 _ List.mem_cons_self
    refine ⟨?_, fun y hy => ?_⟩
    · rcases List.mem_cons.mp h1 with e | e
      · rw [e]; split <;> simp
      · exact List.mem_cons_of_mem _ (List.mem_cons_of_mem _ e)
    · rcases List.mem_cons.mp hy with e | e
      · subst e
        refine leS_trans h0 ?_
        split
        · exact leS_refl
        · rename_i q; exact leS_total q
      · rcases List.mem_cons.mp e with e | e
        · subst e
          refine leS_trans h0 ?_
          split
          · rename_i q; exact q
          · exact leS_refl
        · exact h2 y (List.mem_cons_of_mem _ e)
/-! ### built-in functions -/
inductive Bf where
  | len | abs | int | sum | max | min | all | any | sorted | list | tuple | range
def Bf.nm : Bf → Str
  | .len => "len" | .abs => "abs" | .int => "int" | .sum => "sum" | .max => "max" | .min => "min" | .all => "all" | .any => "any" | .sorted => "sorted" | .list => "list" | .tuple => "tuple" | .range => "range"
def Bf.val : Bf → Value
  | .len => .builtin "len" | .abs => .builtin "abs" | .int => .type "int" | .sum => .builtin "sum" | .max => .builtin "max" | .min => .builtin "min" | .all => .builtin "all" | .any => .builtin "any" | .sorted => .builtin "sorted" | .list => .type "list" | .tuple => .type "tuple" | .range => .type "range"
def lenD : PyData → Option OV
  | .list ds => some (.fz (.int (ds.length : Int)))
  | .tuple ds => some (.fz (.int (ds.length : Int)))
  | .str x => some (.fz (.int (x.length : Int)))
  | _ => none
def bfD : Bf → List PyData → Option OV
  | .len, [d] => lenD d
  | .abs, [.int i] => some (.fz (.int (if i < 0 then -i else i)))
  | .int, [.int i] => some (.fz (.int i))
  | .int, [.bool b] => some (.fz (.int (if b = true then 1 else 0)))
  | .sum, [.list ds] => (intsOf ds).map fun ns => .fz (.int ns.sum)
  | .max, [.list ds] => (intsOf ds).bind fun ns => (maxI ns).map fun m => .fz (.int m)
  | .max, [.int i, .int j] => some (.fz (.int (if j > i then j else i)))
  | .min, [.list ds] => (match intsOf ds with
    | some ns => (minI ns).map fun m => .fz (.int m)
    | none => (strsOf ds).bind fun ss => (minS ss).map fun m => .fz (.str m))
  | .min, [.int i, .int j] => some (.fz (.int (if j < i then j else i)))
  | .all, [.list ds] => (bolsOf ds).map fun bs => .fz (.bool (bs.all id))
  | .any, [.list ds] => (bolsOf ds).map fun bs => .fz (.bool (bs.any id))
  | .sorted, [.list ds] => (match intsOf ds with
    | some ns => some (.ol ((isortI ns).map fun i => .fz (.int i)))
    | none => (match strsOf ds with
      | some ss => some (.ol ((isortS ss).map fun i => .fz (.str i)))
      | none => (prsOf ds).map fun ps => .ol ((isortP ps).map fun p => .fz (tupP p))))
  | .list, [.list ds] => some (.ol (ds.map .fz))
  | .list, [.tuple ds] => some (.ol (ds.map .fz))
  | .tuple, [.list ds] => some (.fz (.tuple ds))
  | .tuple, [.tuple ds] => some (.fz (.tuple ds))
  | .range, [.int lo, .int hi] => if (-(2 ^ 61) ≤ lo ∧ lo < 2 ^ 61) ∧ (-(2 ^ 61) ≤ hi ∧ hi < 2 ^ 61) ∧ hi - lo ≤ 16777216 then some (.rg lo hi) else none
  | _, _ => none
def wC (S : Ctx) (f : Value) : List V → Hp → VK → Prop := fun vs H Q => ∃ r, (∀ X, S.has X → CallR X f r) ∧ r vs H Q
/-- a call of values keeps to g -/
def CallOk (S : Ctx) (f : Value) (g : List PyData → Option OV) : Prop := ∀ (σ : St) (env : Env) (Z H : Hp) (F : Fp) (vs : List V) (ds : List PyData) (r : OV), SI S.K Z H σ env F → Rps Z vs ds → g ds = some r →
  ∀ Q : VK, (∀ v Z' H' G, SI S.K Z' H' σ env F → OR S.K Z' H' v r G → Stp Z H F Z' H' F G → Q v H') → wC S f vs H Q
def callM (ml : M (List PyData)) (g : List PyData → Option OV) : M OV := fun env => (ml env).bind fun ds e1 => Rs.o (g ds) e1
section
variable {S : Ctx} {X : Cx} {a e : Expr} {es : List Expr} {ma : M PyData} {ml : M (List PyData)} {g : List PyData → Option OV} {pos : Pos}
theorem cr_w {f : Value} (h : S.has X) : CallR X f (wC S f) := fun pins s σ H xs us Q I r ⟨R, p, q⟩ => p X h pins s σ H xs us Q I r q
theorem sv_blt {x : Str} {f : Value} {p : Pos} (n : BltName S x) (hf : (∃ id, f = .builtin id) ∨ ∃ id, f = .type id) (hv : bootBuiltins x = some f) (hx : x ≠ "__name__") (hd : (x == ("__debug__" : Str)) = false) (ho : CallOk S f g) (hl : SL S (a :: es) ml) (hn : (a :: es).all notStar = true) :
    SV S (.Call (.Name x p) (a :: es) [] pos) (callM ml g) := .of fun σ env Z H F I Q mm hm k kx kb => by
  rw [List.all_cons, Bool.and_eq_true] at hn
  refine ⟨tCB (wC S f) (wA S (a :: es)), fun X hX => ?_, ?_⟩
  · rcases hf with ⟨id, rfl⟩ | ⟨id, rfl⟩
    · exact pe_callB (cr_w hX) (n.g hX).1 (n.g hX).2 hv (pa_w hX) hx hd (star_cons hn.1) (plain_any hn.2)
    · exact pe_callTy (cr_w hX) (n.g hX).1 (n.g hX).2 hv (pa_w hX) hx hd (star_cons hn.1) (plain_any hn.2)
  refine hl.go I hm kx kb fun ds e1 vs Z1 H1 F1 _ q1 I1 r1 s1 => ?_
  rw [q1] at kb
  obtain ⟨r, hr⟩ := ro_nb kb
  exact ho σ e1 Z1 H1 F1 vs ds r I1 r1 hr Q fun v Z' H' G I' o' s' => k r e1 (by rw [q1, hr]; rfl) v Z' H' F1 G I' o' (s1.trans0 s')
theorem wc_mk {f : Value} {vs : List V} {H : Hp} {Q : VK} {R : List V → Hp → VK → Prop} (h : ∀ X, S.has X → CallR X f R) (q : R vs H Q) : wC S f vs H Q := ⟨R, h, q⟩
def rLenQ (K : PySem.W.Frag) : List V → Hp → VK → Prop := fun xs H Q => ∃ p ys, xs = [.ref p] ∧ (SqL K H p ys ∨ SqT K H p ys) ∧ Q (.int ys.length) H
def rListQ (K : PySem.W.Frag) : List V → Hp → VK → Prop := fun xs H Q => ∃ p ys, xs = [.ref p] ∧ (SqL K H p ys ∨ SqT K H p ys) ∧ ∀ l, H l = none → Q (.ref l) (upd H l (.lst ys))
def rTupQ (K : PySem.W.Frag) : List V → Hp → VK → Prop := fun xs H Q => ∃ p ys, xs = [.ref p] ∧ ((SqL K H p ys ∧ ∀ l, H l = none → Q (.ref l) (upd H l (.tup ys))) ∨ (SqT K H p ys ∧ Q (.ref p) H))
theorem ok_len : CallOk S (.builtin "len") (bfD .len) := by
  intro σ env Z H F vs ds r I rs hr Q k
  match ds, rs, hr with
  | [d], rs, hr =>
    obtain ⟨v, rfl, rv⟩ := rs.one
    cases rv with
    | @lst p ws es h l rr =>
      refine wc_mk (R := rLenQ S.K) (fun X hX => by rw [← hX.K]; exact call_len_seq) ⟨p, ws, rfl, .inl (.inl (.inl (I.sub _ _ h))), ?_⟩
      rw [rr.length]
      exact k_fz I k (Option.some.inj hr).symm (.int _)
    | @tup p ws es h l rr =>
      refine wc_mk (R := rLenQ S.K) (fun X hX => by rw [← hX.K]; exact call_len_seq) ⟨p, ws, rfl, .inr (.inl (.inl (I.sub _ _ h))), ?_⟩
      rw [rr.length]
      exact k_fz I k (Option.some.inj hr).symm (.int _)
    | str x hx => exact wc_mk (fun X hX => call_len_str) ⟨x, rfl, hx.1, k_fz I k (Option.some.inj hr).symm (.int _)⟩
    | _ => cases hr
theorem ok_abs : CallOk S (.builtin "abs") (bfD .abs) := by
  intro σ env Z H F vs ds r I rs hr Q k
  match ds, rs, hr with
  | [.int i], rs, hr =>
    obtain ⟨v, rfl, rv⟩ := rs.one
    cases rv
    exact wc_mk (fun X hX => call_abs) ⟨i, rfl, k_fz I k (Option.some.inj hr).symm (.int _)⟩
theorem ok_int : CallOk S (.type "int") (bfD .int) := by
  intro σ env Z H F vs ds r I rs hr Q k
  match ds, rs, hr with
  | [.int i], rs, hr =>
    obtain ⟨v, rfl, rv⟩ := rs.one
    cases rv
    exact wc_mk (fun X hX => call_int1) (.inl ⟨i, rfl, k_fz I k (Option.some.inj hr).symm (.int _)⟩)
  | [.bool i], rs, hr =>
    obtain ⟨v, rfl, rv⟩ := rs.one
    cases rv
    exact wc_mk (fun X hX => call_int1) (.inr ⟨i, rfl, k_fz I k (Option.some.inj hr).symm (.int _)⟩)
theorem ok_sum : CallOk S (.builtin "sum") (bfD .sum) := by
  intro σ env Z H F vs ds r I rs hr Q k
  match ds, rs, hr with
  | [.list es], rs, hr =>
    obtain ⟨v, rfl, rv⟩ := rs.one
    cases rv with
    | @lst p ws es h l rr =>
      have hr : (intsOf es).map (fun ns => OV.fz (.int ns.sum)) = some r := hr
      cases q : intsOf es with
      | none => rw [q] at hr; cases hr
      | some ns =>
        rw [q] at hr
        obtain ⟨rfl, _⟩ := rps_ints rr q
        exact wc_mk (R := rSum S.K) (fun X hX => by rw [← hX.K]; exact cr_sum hX.calm) ⟨p, ns, rfl, .inl (.inl (I.sub _ _ h)), k_fz I k (Option.some.inj hr).symm (.int _)⟩
theorem ok_max : CallOk S (.builtin "max") (bfD .max) := by
  intro σ env Z H F vs ds r I rs hr Q k
  match ds, rs, hr with
  | [.list es], rs, hr =>
    obtain ⟨v, rfl, rv⟩ := rs.one
    cases rv with
    | @lst p ws es h l rr =>
      have hr : (intsOf es).bind (fun ns => (maxI ns).map fun m => OV.fz (.int m)) = some r := hr
      cases q : intsOf es with
      | none => rw [q] at hr; cases hr
      | some ns =>
        rw [q] at hr
        obtain ⟨rfl, _⟩ := rps_ints rr q
        cases ns with
        | nil => cases hr
        | cons x ns =>
          obtain ⟨m1, m2⟩ := maxI_spec ns x
          refine wc_mk (R := rMax S.K) (fun X hX => by rw [← hX.K]; exact cr_max hX.calm) ⟨p, x :: ns, rfl, .inl (.inl (I.sub _ _ h)), Nat.succ_pos _, fun m hm hle => ?_⟩
          have e : m = ns.foldl (fun a b => if b > a then b else a) x := Int.le_antisymm (m2 m hm) (hle _ m1)
          rw [e]
          exact k_fz I k (Option.some.inj hr).symm (.int _)
  | [.int i, .int j], rs, hr =>
    obtain ⟨v, v', rfl, rv, rv'⟩ := rs.two
    cases rv; cases rv'
    exact wc_mk (fun X hX => call_max2 hX.calm) ⟨i, j, rfl, k_fz I k (Option.some.inj hr).symm (.int _)⟩
theorem ok_min : CallOk S (.builtin "min") (bfD .min) := by
  intro σ env Z H F vs ds r I rs hr Q k
  match ds, rs, hr with
  | [.list es], rs, hr =>
    obtain ⟨v, rfl, rv⟩ := rs.one
    cases rv with
    | @lst p ws es h l rr =>
      have hr : (match intsOf es with
        | some ns => (minI ns).map fun m => OV.fz (.int m)
        | none => (strsOf es).bind fun ss => (minS ss).map fun m => OV.fz (.str m)) = some r := hr
      cases q : intsOf es with
      | none =>
        rw [q] at hr
        cases q2 : strsOf es with
        | none => rw [q2] at hr; cases hr
        | some ss =>
          rw [q2] at hr
          obtain ⟨rfl, hg⟩ := rps_strs rr q2
          cases ss with
          | nil => cases hr
          | cons x ss =>
            obtain ⟨m1, m2⟩ := minS_spec ss x
            refine wc_mk (R := rMinS S.K) (fun X hX => by rw [← hX.K]; exact cr_minS hX.calm) ⟨p, x :: ss, rfl, .inl (.inl (I.sub _ _ h)), by simp, fun m hm hle => ?_⟩
            have e : m = ss.foldl (fun a b => if leS a b = true then a else b) x := leS_antisymm (leS_iff.mpr (hle _ m1)) (m2 m hm)
            rw [e]
            exact k_fz I k (Option.some.inj hr).symm (.str _ (hg _ m1))
      | some ns =>
        rw [q] at hr
        obtain ⟨rfl, _⟩ := rps_ints rr q
        cases ns with
        | nil => cases hr
        | cons x ns =>
          obtain ⟨m1, m2⟩ := minI_spec ns x
          refine wc_mk (R := rMin S.K) (fun X hX => by rw [← hX.K]; exact cr_min hX.calm) ⟨p, x :: ns, rfl, .inl (.inl (I.sub _ _ h)), Nat.succ_pos _, fun m hm hle => ?_⟩
          have e : m = ns.foldl (fun a b => if b < a then b else a) x := Int.le_antisymm (hle _ m1) (m2 m hm)
          rw [e]
          exact k_fz I k (Option.some.inj hr).symm (.int _)
  | [.int i, .int j], rs, hr =>
    obtain ⟨v, v', rfl, rv, rv'⟩ := rs.two
    cases rv; cases rv'
    exact wc_mk (fun X hX => call_min2 hX.calm) ⟨i, j, rfl, k_fz I k (Option.some.inj hr).symm (.int _)⟩
theorem ok_all : CallOk S (.builtin "all") (bfD .all) := by
  intro σ env Z H F vs ds r I rs hr Q k
  match ds, rs, hr with
  | [.list es], rs, hr =>
    obtain ⟨v, rfl, rv⟩ := rs.one
    cases rv with
    | @lst p ws es h l rr =>
      have hr : (bolsOf es).map (fun bs => OV.fz (.bool (bs.all id))) = some r := hr
      cases q : bolsOf es with
      | none => rw [q] at hr; cases hr
      | some ns =>
        rw [q] at hr
        obtain rfl := rps_bols rr q
        exact wc_mk (R := rAll S.K) (fun X hX => by rw [← hX.K]; exact cr_all hX.calm) ⟨p, ns, rfl, .inl (.inl (I.sub _ _ h)), k_fz I k (Option.some.inj hr).symm (.bl _)⟩
theorem ok_any : CallOk S (.builtin "any") (bfD .any) := by
  intro σ env Z H F vs ds r I rs hr Q k
  match ds, rs, hr with
  | [.list es], rs, hr =>
    obtain ⟨v, rfl, rv⟩ := rs.one
    cases rv with
    | @lst p ws es h l rr =>
      have hr : (bolsOf es).map (fun bs => OV.fz (.bool (bs.any id))) = some r := hr
      cases q : bolsOf es with
      | none => rw [q] at hr; cases hr
      | some ns =>
        rw [q] at hr
        obtain rfl := rps_bols rr q
        exact wc_mk (R := rAny S.K) (fun X hX => by rw [← hX.K]; exact cr_any hX.calm) ⟨p, ns, rfl, .inl (.inl (I.sub _ _ h)), k_fz I k (Option.some.inj hr).symm (.bl _)⟩
/-- sorted of texts, any number of them -/
def rSortedSA (K : PySem.W.Frag) : List V → Hp → VK → Prop := fun vs H Q => ∃ (a : Addr) (xs : List Str), vs = [V.ref a] ∧ SqL K H a (xs.map V.str) ∧
  ∀ (ys : List Str) (p : Addr), ys.Perm xs → PyProof.Rows.sortedS ys = true → H p = none → Q (.ref p) (upd H p (.lst (ys.map V.str)))
theorem cr_sortedSA : CallR X (.builtin "sorted") (rSortedSA X.K) := by
  intro pins s σ H vs us Q I r h
  obtain ⟨a, xs, rfl, hs, q⟩ := h
  obtain ⟨its, rv, hl, hz⟩ := I.list hs
  rw [Vals.ref1 r]
  have hlen0 := rv.length
  refine PyProof.Rows.sorted_strsAny hl.isList rv.strs (by rw [← hlen0]; exact hz) fun out ys h1 h2 h3 => ?_
  obtain ⟨ep, he'⟩ := PyProof.Rows.sortedAll_at s.heap its out
  have hlen : (ys.map V.str).length ≤ sizeLine := by rw [List.length_map, h2.length_eq]; rw [List.length_map] at hz; exact hz
  exact ⟨.ref _, upd H (s.heap.objs.size + 1) (.lst (ys.map V.str)), I.laid (t' := s.toks) (fun _ _ => PyProof.Rows.sortedAll_old) (Nat.le_succ _) ⟨hlen, out.toList, ep, vals_of_strs h1, he'⟩, rfl, q ys _ h2 h3 (I.hok.fresh (Nat.le_succ _))⟩
theorem rising_le : ∀ {l : List Str} {p : Str}, PyProof.Rows.risingS p l = true → (∀ x ∈ l, leS p x = true) ∧ l.Pairwise (fun a b => leS a b = true)
  | [], _, _ => ⟨fun x z => (nomatch z), List.Pairwise.nil⟩
  | x :: r, p, h => by
    unfold PyProof.Rows.risingS at h
    rw [Bool.and_eq_true] at h
    have h1 : leS p x = true := by
      unfold leS
      rw [← PyProof.Rows.ltCps_eq]; exact h.1
    obtain ⟨g1, g2⟩ := rising_le h.2
    refine ⟨fun y hy => ?_, List.pairwise_cons.mpr ⟨g1, g2⟩⟩
    rcases List.mem_cons.mp hy with e | e
    · rw [e]; exact h1
    · exact leS_trans h1 (g1 y e)
theorem sortedS_pw {l : List Str} (h : PyProof.Rows.sortedS l = true) : l.Pairwise (fun a b => leS a b = true) := by
  cases l with
  | nil => exact .nil
  | cons x r =>
    obtain ⟨g1, g2⟩ := rising_le (show PyProof.Rows.risingS x r = true from h)
    exact List.pairwise_cons.mpr ⟨g1, g2⟩
theorem ok_sorted : CallOk S (.builtin "sorted") (bfD .sorted) := by
  intro σ env Z H F vs ds r I rs hr Q k
  match ds, rs, hr with
  | [.list es], rs, hr =>
    obtain ⟨v, rfl, rv⟩ := rs.one
    cases rv with
    | @lst p ws es h l rr =>
      have hr : (match intsOf es with
        | some ns => some (OV.ol ((isortI ns).map fun i => .fz (.int i)))
        | none => (match strsOf es with
          | some ss => some (OV.ol ((isortS ss).map fun i => .fz (.str i)))
          | none => (prsOf es).map fun ps => .ol ((isortP ps).map fun p => .fz (tupP p)))) = some r := hr
      cases q : intsOf es with
      | some ns =>
        rw [q] at hr
        have e : r = .ol ((isortI ns).map fun i => .fz (.int i)) := (Option.some.inj hr).symm
        obtain ⟨rfl, _⟩ := rps_ints rr q
        refine wc_mk (R := rSortedI S.K) (fun X hX => by rw [← hX.K]; exact cr_sortedI) ⟨p, ns, rfl, .inl (.inl (I.sub _ _ h)), fun ns' p' pm st hp => ?_⟩
        have e2 : ns' = isortI ns := sortedI_unique (pm.trans (isortI_perm ns).symm) st (isortI_sorted ns)
        subst e2
        obtain ⟨I', o', s'⟩ := I.newL hp (ints_rps (isortI ns)) (by rw [List.length_map, (isortI_perm ns).length_eq]; rw [List.length_map] at l; exact l)
        rw [e] at k
        rw [List.map_map] at o'
        exact k _ _ _ _ I' o' s'
      | none =>
        rw [q] at hr
        cases q2 : strsOf es with
        | none =>
          rw [q2] at hr
          cases q3 : prsOf es with
          | none => rw [q3] at hr; cases hr
          | some ps =>
            rw [q3] at hr
            have e : r = .ol ((isortP ps).map fun p => .fz (tupP p)) := (Option.some.inj hr).symm
            obtain ⟨g1, g2⟩ := rps_prs rr q3
            refine wc_mk (R := rSortedTI S.K) (fun X hX => by rw [← hX.K]; exact cr_sortedTI) ⟨p, ws, pairAt Z, rfl, .inl (.inl (I.sub _ _ h)), fun x hx => ?_, fun ys p' st pm hp => ?_⟩
            · obtain ⟨t, e1, e2⟩ := (g2 x hx).2
              exact ⟨t, e1, I.sub _ _ e2⟩
            · have e2 : ys.map (pairAt Z) = isortP ps := sortedP_unique (((pm.map (pairAt Z)).trans (by rw [g1])).trans (isortP_perm ps).symm) (List.pairwise_map.mpr st) (isortP_sorted ps)
              have rs' : ∀ zs : List V, (∀ v ∈ zs, v ∈ ws) → Rps Z zs (zs.map fun v => tupP (pairAt Z v)) := by
                intro zs
                induction zs with
                | nil => intro _; exact .nil
                | cons v zs ih => intro hv; exact .cons (g2 v (hv v List.mem_cons_self)).1 (ih fun u hu => hv u (List.mem_cons_of_mem _ hu))
              have r2 := rs' ys fun v hv => pm.mem_iff.mp hv
              have e3 : (ys.map fun v => tupP (pairAt Z v)) = (isortP ps).map tupP := by rw [← e2, List.map_map]; rfl
              rw [e3] at r2
              obtain ⟨I', o', s'⟩ := I.newL hp r2 (by rw [pm.length_eq]; exact l)
              rw [e] at k
              rw [List.map_map] at o'
              exact k _ _ _ _ I' o' s'
        | some ss =>
          rw [q2] at hr
          have e : r = .ol ((isortS ss).map fun i => .fz (.str i)) := (Option.some.inj hr).symm
          obtain ⟨rfl, hg⟩ := rps_strs rr q2
          refine wc_mk (R := rSortedSA S.K) (fun X hX => by rw [← hX.K]; exact cr_sortedSA) ⟨p, ss, rfl, .inl (.inl (I.sub _ _ h)), fun ns' p' pm st hp => ?_⟩
          have e2 : ns' = isortS ss := sortedS_unique (pm.trans (isortS_perm ss).symm) (sortedS_pw st) (isortS_sorted ss)
          subst e2
          obtain ⟨I', o', s'⟩ := I.newL hp (strs_rps (isortS ss) fun x hx => hg x ((isortS_perm ss).mem_iff.mp hx)) (by rw [List.length_map, (isortS_perm ss).length_eq]; rw [List.length_map] at l; exact l)
          rw [e] at k
          rw [List.map_map] at o'
          exact k _ _ _ _ I' o' s'
theorem ok_list : CallOk S (.type "list") (bfD .list) := by
  intro σ env Z H F vs ds r I rs hr Q k
  match ds, rs, hr with
  | [.list es], rs, hr =>
    obtain ⟨v, rfl, rv⟩ := rs.one
    cases rv with
    | @lst p ws es h l rr =>
      have e : r = .ol (es.map .fz) := (Option.some.inj hr).symm
      refine wc_mk (R := rListQ S.K) (fun X hX => by rw [← hX.K]; exact call_list_of) ⟨p, ws, rfl, .inl (.inl (.inl (I.sub _ _ h))), fun l' hl => ?_⟩
      obtain ⟨I', o', s'⟩ := I.newL hl rr l
      rw [e] at k
      exact k _ _ _ _ I' o' s'
  | [.tuple es], rs, hr =>
    obtain ⟨v, rfl, rv⟩ := rs.one
    cases rv with
    | @tup p ws es h l rr =>
      have e : r = .ol (es.map .fz) := (Option.some.inj hr).symm
      refine wc_mk (R := rListQ S.K) (fun X hX => by rw [← hX.K]; exact call_list_of) ⟨p, ws, rfl, .inr (.inl (.inl (I.sub _ _ h))), fun l' hl => ?_⟩
      obtain ⟨I', o', s'⟩ := I.newL hl rr l
      rw [e] at k
      exact k _ _ _ _ I' o' s'
theorem ok_tuple : CallOk S (.type "tuple") (bfD .tuple) := by
  intro σ env Z H F vs ds r I rs hr Q k
  match ds, rs, hr with
  | [.list es], rs, hr =>
    obtain ⟨v, rfl, rv⟩ := rs.one
    cases rv with
    | @lst p ws es h l rr =>
      have e : r = .fz (.tuple es) := (Option.some.inj hr).symm
      refine wc_mk (R := rTupQ S.K) (fun X hX => by rw [← hX.K]; exact call_tuple_of) ⟨p, ws, rfl, .inl ⟨.inl (.inl (I.sub _ _ h)), fun l' hl => ?_⟩⟩
      obtain ⟨I', o', s'⟩ := I.newT hl rr l
      rw [e] at k
      exact k _ _ _ _ I' (.fz o') s'
  | [.tuple es], rs, hr =>
    obtain ⟨v, rfl, rv⟩ := rs.one
    cases rv with
    | @tup p ws es h l rr =>
      refine wc_mk (R := rTupQ S.K) (fun X hX => by rw [← hX.K]; exact call_tuple_of) ⟨p, ws, rfl, .inr ⟨.inl (.inl (I.sub _ _ h)), ?_⟩⟩
      exact k_fz I k (Option.some.inj hr).symm (.tup h l rr)
theorem ok_range : CallOk S (.type "range") (bfD .range) := by
  intro σ env Z H F vs ds r I rs hr Q k
  match ds, rs, hr with
  | [.int lo, .int hi], rs, hr =>
    obtain ⟨v, v', rfl, rv, rv'⟩ := rs.two
    cases rv; cases rv'
    have hr : (if (-(2 ^ 61) ≤ lo ∧ lo < 2 ^ 61) ∧ (-(2 ^ 61) ≤ hi ∧ hi < 2 ^ 61) ∧ hi - lo ≤ 16777216 then some (OV.rg lo hi) else none) = some r := hr
    split at hr
    · cases hr
      refine wc_mk (fun X hX => cr_range2) ⟨lo, hi, rfl, fun p hp => ?_⟩
      obtain ⟨s, I'⟩ := I.fresh (o := .rng lo hi) hp
      exact k _ _ _ _ I' (.rg upd_same) s
    · cases hr
theorem ok_bf (b : Bf) : CallOk S b.val (bfD b) := by
  cases b with
  | len => exact ok_len
  | abs => exact ok_abs
  | int => exact ok_int
  | sum => exact ok_sum
  | max => exact ok_max
  | min => exact ok_min
  | all => exact ok_all
  | any => exact ok_any
  | sorted => exact ok_sorted
  | list => exact ok_list
  | tuple => exact ok_tuple
  | range => exact ok_range
theorem Bf.boot (b : Bf) : bootBuiltins b.nm = some b.val := by cases b <;> decide +kernel
theorem Bf.ne (b : Bf) : b.nm ≠ "__name__" := by cases b <;> decide +kernel
theorem Bf.nd (b : Bf) : (b.nm == ("__debug__" : Str)) = false := by cases b <;> decide +kernel
theorem Bf.kind (b : Bf) : (∃ id, b.val = .builtin id) ∨ ∃ id, b.val = .type id := by cases b <;> first | exact .inl ⟨_, rfl⟩ | exact .inr ⟨_, rfl⟩
/-! list(script) -/
def lscM (i : Nat) : M OV := fun env => match env[i]? with
  | some (some (.sc ns)) => if ns.length ≤ sizeLine then .ok (.ol (ns.map fun n => .fz (.int n))) env else .bad
  | _ => .bad
theorem sv_lsc {i : Nat} {x : Str} {p p2 : Pos} (n : BltName S "list") (m : NameOk S i x) : SV S (.Call (.Name "list" p) [.Name x p2] [] pos) (lscM i) := .of fun σ env Z H F I Q mm hm k kx kb => by
  refine ⟨tCB (rListQ S.K) (tCons (tVar i) tNil), fun X hX => by rw [← hX.K]; exact pe_callTy call_list_of (n.g hX).1 (n.g hX).2 (by decide +kernel) (pa_cons (m.pe hX) pa_nil), ?_⟩
  unfold lscM at hm
  cases q : env[i]? with
  | none => simp only [q] at hm; exact absurd hm kb
  | some o =>
    cases o with
    | none => simp only [q] at hm; exact absurd hm kb
    | some y =>
      cases y with
      | fz d => simp only [q] at hm; exact absurd hm kb
      | ol d => simp only [q] at hm; exact absurd hm kb
      | rg i j => simp only [q] at hm; exact absurd hm kb
      | sc ns =>
        simp only [q] at hm
        split at hm
        · rename_i hl
          obtain ⟨v, ev, r⟩ := I.rep i _ q
          generalize hG : F i = G0 at r
          cases r with
          | @sc a _ hs =>
            refine ⟨.ref a, ev, a, _, rfl, .inl (Same.seq I.sub hs), fun l hl' => ?_⟩
            obtain ⟨I', o', s'⟩ := I.newL hl' (ints_rps ns) (by rw [List.length_map]; exact hl)
            rw [List.map_map] at o'
            exact k _ _ hm _ _ _ F _ I' o' s'
        · exact absurd hm kb
/-! a range that a name holds, walked -/
def rgItM (i : Nat) : M (List PyData) := fun env => match env[i]? with
  | some (some (.rg lo hi)) => if (-(2 ^ 61) ≤ lo ∧ lo < 2 ^ 61) ∧ (-(2 ^ 61) ≤ hi ∧ hi < 2 ^ 61) ∧ hi - lo ≤ 16777216 then .ok (rngL lo hi) env else .bad
  | _ => .bad
def iRngV (te : TE) : TI := fun σ H R => te σ H fun x H1 => ∃ a lo hi, x = .ref a ∧ H1 a = some (.rng lo hi) ∧ (-(2 ^ 62) ≤ lo ∧ lo < 2 ^ 62 ∧ -(2 ^ 62) ≤ hi ∧ hi < 2 ^ 62) ∧ R (Itr lo (hi - lo).toNat) H1
theorem pi_rngV {tg : Expr} {te : TE} (he : PE X e te) : PI X tg e (iRngV te) := by
  refine ⟨fun pins s σ H R I h => ?_⟩
  refine thn (he.run pins s σ H _ I h) fun v s1 ⟨x, H1, I1, r1, q1⟩ => ?_
  obtain ⟨a, lo, hi, e, ha, ⟨h1, h2, h3, h4⟩, q⟩ := q1
  subst e
  cases r1
  obtain ⟨t, u, v, ho⟩ := I1.hok a _ ha
  refine wpAny_pyIter_range ho (small_one h1 h2 h3 h4) ?_
  refine ⟨s1.heap.objs.size, [s1.heap.objs.size], _, _, H1, rfl, I1.kept (t' := s1.toks) fun b o e => Heap.get?_push_of_some _ e, turn_range _ lo (hi - lo).toNat, ?_, fun b hb => ?_, q⟩
  · have e1 : lo + ((0 : Nat) : Int) * 1 = lo := by simp
    have e2 : (((hi - lo).toNat : Nat) : Int) - ((0 : Nat) : Int) = Builtin.Range.rangeSize lo hi 1 := by rw [rangeSize_one]; split <;> omega
    show IsRangeIter _ _ (lo + ((0 : Nat) : Int) * 1) ((((hi - lo).toNat : Nat) : Int) - ((0 : Nat) : Int)) 1
    rw [e1, e2]
    exact Heap.get?_push_size _ rfl
  · have e : b = s1.heap.objs.size := by simpa using hb
    subst e
    exact I1.fpOk (Nat.le_refl _) (I1.hok.fresh (Nat.le_refl _))
theorem si_rgv {i : Nat} {x : Str} {tg : Expr} (n : NameOk S i x) : SIt S tg (.Name x pos) (rgItM i) := fun σ env Z H F I R k kx kb => by
  refine ⟨iRngV (tVar i), fun X hX => pi_rngV (n.pe hX), ?_⟩
  obtain ⟨mm, hm⟩ : ∃ mm, mm = rgItM i env := ⟨_, rfl⟩
  rw [← hm] at kb
  unfold rgItM at hm
  cases q : env[i]? with
  | none => simp only [q] at hm; exact absurd hm kb
  | some o =>
    cases o with
    | none => simp only [q] at hm; exact absurd hm kb
    | some y =>
      cases y with
      | fz d => simp only [q] at hm; exact absurd hm kb
      | ol d => simp only [q] at hm; exact absurd hm kb
      | sc d => simp only [q] at hm; exact absurd hm kb
      | rg lo hi =>
        simp only [q] at hm
        split at hm
        · rename_i hb
          obtain ⟨v, ev, r⟩ := I.rep i _ q
          generalize hG : F i = G0 at r
          cases r with
          | @rg a _ _ hz =>
            refine ⟨.ref a, ev, a, lo, hi, rfl, I.sub _ _ hz, by omega, ?_⟩
            refine k (rngL lo hi) env ?_ _ Z H F I (wk_rng hb.2.2) .refl
            unfold rgItM; simp only [q]; rw [if_pos hb]
        · exact absurd hm kb
/-! isinstance(x, T) -/
inductive Ty where
  | int | bool | str | list | tuple
def Ty.s : Ty → String
  | .int => "int" | .bool => "bool" | .str => "str" | .list => "list" | .tuple => "tuple"
def Ty.nm : Ty → Str
  | .int => "int" | .bool => "bool" | .str => "str" | .list => "list" | .tuple => "tuple"
def isiD : PyData → Ty → Option Bool
  | .none, _ => some false
  | .bool _, .int => some true
  | .bool _, .bool => some true
  | .bool _, _ => some false
  | .int _, .int => some true
  | .int _, _ => some false
  | .str _, .str => some true
  | .str _, _ => some false
  | .list _, .list => some true
  | .list _, _ => some false
  | .tuple _, .tuple => some true
  | .tuple _, _ => some false
  | .dict _, _ => none
def isiM (ma : M PyData) (t : Ty) : M PyData := fun env => (ma env).bind fun d e1 => match isiD d t with
  | some b => .ok (.bool b) e1
  | none => .bad
theorem sd_isi {t : Ty} {p p2 : Pos} (n : BltName S "isinstance") (nt : BltName S t.nm) (ha : SD S a ma) (hn : notStar a = true) : SD S (.Call (.Name "isinstance" p) [a, .Name t.nm p2] [] pos) (isiM ma t) := .of fun σ env Z H F I Q mm hm k kx kb => by
  have hall : [Expr.Name t.nm p2].all notStar = true := rfl
  refine ⟨tCB (rIsi S.K) (tCons (wE S a) (tCons (tC (.ty t.s)) tNil)), fun X hX => by
    rw [← hX.K]
    exact pe_callB call_isi (n.g hX).1 (n.g hX).2 (by decide +kernel) (pa_cons (pe_w hX) (pa_cons (pe_bltn (v := .ty t.s) (u := .type t.s) (nt.g hX).1 (nt.g hX).2 (by cases t <;> decide +kernel) rfl (by cases t <;> decide +kernel) (by cases t <;> decide +kernel)) pa_nil (star_cons rfl)) (star_cons hn)) (by decide +kernel) (by decide +kernel) (star_cons hn) (plain_any hall), ?_⟩
  refine ha.go I hm kx kb fun d e1 va Z1 H1 F1 _ q1 I1 r1 s1 => ?_
  cases qd : isiD d t with
  | none => rw [qd] at q1; exact absurd q1 kb
  | some b =>
    rw [qd] at q1
    have fin := k _ _ q1 (.bl b) Z1 H1 F1 I1 (.bl b) s1
    cases r1 with
    | non => exact ⟨_, _, .type "NoneType", _, b, rfl, .ty _, .base .non, kit_ty (by cases t <;> cases qd <;> decide +kernel), fin⟩
    | bl c => exact ⟨_, _, .type "bool", _, b, rfl, .ty _, .base (.bl c), kit_ty (by cases t <;> cases qd <;> decide +kernel), fin⟩
    | int c => exact ⟨_, _, .type "int", _, b, rfl, .ty _, .base (.int c), kit_ty (by cases t <;> cases qd <;> decide +kernel), fin⟩
    | str c _ => exact ⟨_, _, .type "str", _, b, rfl, .ty _, .base (.str c), kit_ty (by cases t <;> cases qd <;> decide +kernel), fin⟩
    | lst h l r => exact ⟨_, _, .type "list", _, b, rfl, .ty _, .base (.lst (I1.sub _ _ h)), kit_ty (by cases t <;> cases qd <;> decide +kernel), fin⟩
    | tup h l r => exact ⟨_, _, .type "tuple", _, b, rfl, .ty _, .base (.tup (I1.sub _ _ h)), kit_ty (by cases t <;> cases qd <;> decide +kernel), fin⟩
end
end Vi

set_option Elab.async false
set_option linter.all false
set_option maxRecDepth 100000
namespace Vi
open PySem L2
/-! ### one sign in a text: its places -/
theorem occ_fold (s : Str) (c limit : Nat) : ∀ (l : List Nat) (st : Array Nat × Nat), l.Pairwise (· < ·) → (∀ i ∈ l, st.snd ≤ i) →
    (forIn (m := Id) l st (StrLaws.occBody s ⟨#[c]⟩ s.length limit)).run.fst.toList = st.fst.toList ++ (l.filter fun i => s.cps.toList[i]? == some c).take (limit - st.fst.size)
  | [], st, _, _ => by simp
  | a :: l, st, hp, hf => by
    rw [List.pairwise_cons] at hp
    rw [List.forIn_cons]
    unfold StrLaws.occBody
    have hs := StrLaws.subAt_one s c a
    by_cases hc : s.cps.toList[a]? = some c
    · have h1 := hs.mpr hc
      rw [List.filter_cons_of_pos (by simp [hc])]
      by_cases hl : st.fst.size < limit
      · rw [if_pos ⟨⟨⟨hl, hf a List.mem_cons_self⟩, h1.1⟩, h1.2⟩]
        have ih := occ_fold s c limit l (st.fst.push a, a + 1) hp.2 fun i hi => hp.1 i hi
        refine Eq.trans ih ?_
        simp only [Array.toList_push, Array.size_push]
        rw [show limit - st.fst.size = (limit - (st.fst.size + 1)) + 1 by omega, List.take_succ_cons]
        simp
      · rw [if_neg fun z => hl z.1.1.1]
        have ih := occ_fold s c limit l st hp.2 fun i hi => hf i (List.mem_cons_of_mem _ hi)
        refine Eq.trans ih ?_
        rw [show limit - st.fst.size = 0 by omega]; simp
    · rw [List.filter_cons_of_neg (by rw [beq_iff_eq]; exact hc), if_neg fun z => hc (hs.mp ⟨z.1.2, z.2⟩)]
      exact occ_fold s c limit l st hp.2 fun i hi => hf i (List.mem_cons_of_mem _ hi)
theorem occ_sign (s : Str) (c limit : Nat) : Builtin.Str.occurrences s ⟨#[c]⟩ 0 s.length limit = ((List.range' 0 (s.length + 1)).filter fun i => s.cps.toList[i]? == some c).take limit := by
  rw [StrLaws.occ_eq]
  have := occ_fold s c limit (List.range' 0 (s.length + 1 - 0)) (#[], 0) List.pairwise_lt_range' fun i _ => Nat.zero_le _
  simpa using this
theorem places_len : ∀ (l : List Nat) (c k : Nat), ((List.range' k (l.length + 1)).filter fun i => l[i - k]? == some c).length = (l.filter (· == c)).length
  | [], c, k => by simp
  | a :: l, c, k => by
    have ih := places_len l c (k + 1)
    rw [List.length_cons, List.range'_succ]
    have e : (List.range' (k + 1) (l.length + 1)).filter (fun i => (a :: l)[i - k]? == some c) = (List.range' (k + 1) (l.length + 1)).filter fun i => l[i - (k + 1)]? == some c := by
      refine List.filter_congr fun i hi => ?_
      rw [List.mem_range'] at hi
      obtain ⟨j, _, rfl⟩ := hi
      rw [show k + 1 + 1 * j - k = j + 1 by omega, show k + 1 + 1 * j - (k + 1) = j by omega]; rfl
    by_cases h : a = c
    · subst h
      rw [List.filter_cons_of_pos (by simp), List.filter_cons_of_pos (by simp), List.length_cons, List.length_cons, e, ih]
    · rw [List.filter_cons_of_neg (by simpa using h), List.filter_cons_of_neg (by simpa using h), e, ih]
theorem places_head : ∀ (l : List Nat) (c k : Nat), ((List.range' k (l.length + 1)).filter fun i => l[i - k]? == some c).head? = if c ∈ l then some (k + l.idxOf c) else none
  | [], c, k => by simp
  | a :: l, c, k => by
    have ih := places_head l c (k + 1)
    rw [List.length_cons, List.range'_succ]
    have e : (List.range' (k + 1) (l.length + 1)).filter (fun i => (a :: l)[i - k]? == some c) = (List.range' (k + 1) (l.length + 1)).filter fun i => l[i - (k + 1)]? == some c := by
      refine List.filter_congr fun i hi => ?_
      rw [List.mem_range'] at hi
      obtain ⟨j, _, rfl⟩ := hi
      rw [show k + 1 + 1 * j - k = j + 1 by omega, show k + 1 + 1 * j - (k + 1) = j by omega]; rfl
    by_cases h : a = c
    · subst h
      rw [List.filter_cons_of_pos (by simp)]
      simp
    · rw [List.filter_cons_of_neg (by simpa using h), e, ih]
      by_cases hm : c ∈ l
      · rw [if_pos hm, if_pos (List.mem_cons_of_mem _ hm), List.idxOf_cons]
        have hb : (a == c) = false := by simpa using h
        rw [hb]
        show some (k + 1 + List.idxOf c l) = some (k + (List.idxOf c l + 1))
        congr 1; omega
      · rw [if_neg hm, if_neg (by simp [hm, Ne.symm h])]
theorem len_toList (s : Str) : s.cps.toList.length = s.length := by rw [Array.length_toList]; rfl
theorem count_sign (s : Str) (c : Nat) : Txt.count s ⟨#[c]⟩ = ((s.cps.toList.filter (· == c)).length : Int) := by
  unfold Txt.count
  rw [occ_sign, List.take_of_length_le]
  · have := places_len s.cps.toList c 0
    rw [len_toList] at this
    simp only [Nat.sub_zero] at this
    rw [this]
  · exact Nat.le_trans (List.length_filter_le _ _) (by simp)
theorem index_sign (s : Str) (c : Nat) (h : c ∈ s.cps.toList) : Txt.index0 s ⟨#[c]⟩ = some (s.cps.toList.idxOf c) := by
  unfold Txt.index0
  rw [occ_sign]
  have := places_head s.cps.toList c 0
  rw [len_toList, if_pos h] at this
  simp only [Nat.sub_zero, Nat.zero_add] at this
  generalize (List.range' 0 (s.length + 1)).filter (fun i => s.cps.toList[i]? == some c) = L at this ⊢
  cases L with
  | nil => cases this
  | cons a r => exact this
end Vi

set_option Elab.async false
set_option linter.all false
set_option maxRecDepth 100000
namespace Vi
open PySem L2
def catS (ys : List Str) : Str := ⟨((ys.map fun y => y.cps.toList).flatten).toArray⟩
theorem joinL_nil : ∀ l : List (List Nat), TL.joinL [] l = l.flatten
  | [] => rfl
  | [p] => by simp [TL.joinL]
  | p :: q :: r => by
    show p ++ ([] ++ TL.joinL [] (q :: r)) = _
    rw [joinL_nil (q :: r)]; simp
theorem join_cat {a : Str} (ha : a.length = 0) (ys : List Str) : Txt.join a ys = catS ys := by
  have e0 : a.cps.toList = [] := List.length_eq_zero_iff.mp (by rw [len_toList]; exact ha)
  have e := TL.tl_join a ys
  refine TL.ext_tl ((congrArg TL.tl (TL.join_eq a ys)).trans (e.trans ?_))
  show TL.joinL a.cps.toList _ = _
  rw [e0, joinL_nil]
  rfl
theorem catS_len (ys : List Str) : (catS ys).length = (ys.map (·.length)).sum := by
  unfold catS
  show ((ys.map fun y => y.cps.toList).flatten).toArray.size = _
  rw [List.size_toArray, List.length_flatten, List.map_map]
  exact congrArg List.sum (List.map_congr_left fun y _ => len_toList y)
theorem catS_g {ys : List Str} (h : ∀ y ∈ ys, StrG y) (hl : (ys.map (·.length)).sum ≤ sizeLine) : StrG (catS ys) := by
  refine StrG.of ?_ fun c hc => ?_
  · have := catS_len ys
    unfold catS at this
    have e : (⟨((ys.map fun y => y.cps.toList).flatten).toArray⟩ : Str).length = ((ys.map fun y => y.cps.toList).flatten).length := by
      show ((ys.map fun y => y.cps.toList).flatten).toArray.size = _
      rw [List.size_toArray]
    rw [← e, this]; exact hl
  · rw [List.mem_flatten] at hc
    obtain ⟨l, hl, hc⟩ := hc
    rw [List.mem_map] at hl
    obtain ⟨y, hy, rfl⟩ := hl
    exact (h y hy).mem c hc
inductive Mf where
  | join | count | index
def Mf.nm : Mf → Str
  | .join => "join" | .count => "count" | .index => "index"
def mfD : Mf → Str → PyData → Option PyData
  | .join, a, .list ds => (strsOf ds).bind fun ys => if a.length = 0 ∧ (ys.map (·.length)).sum ≤ 16777216 then some (.str (catS ys)) else none
  | .count, a, .str b => (match b.cps.toList with
    | [c] => some (.int ((a.cps.toList.filter (· == c)).length : Int))
    | _ => none)
  | .index, a, .str b => (match b.cps.toList with
    | [c] => if c ∈ a.cps.toList then some (.int (a.cps.toList.idxOf c : Int)) else none
    | _ => none)
  | _, _, _ => none
def oPd (o : Option PyData) (e : Env) : Rs PyData := match o with
  | some r => .ok r e
  | none => .bad
def mtM (m : Mf) (mo me : M PyData) : M PyData := fun env => (mo env).bind fun a e1 => match a with
  | .str s => (me e1).bind fun d e2 => oPd (mfD m s d) e2
  | _ => .bad
def mfR (K : PySem.W.Frag) : Mf → V → List V → Hp → VK → Prop
  | .join => fun x xs H Q => ∃ a p, ∃ ys : List Str, x = .str a ∧ xs = [.ref p] ∧ (SqL K H p (ys.map V.str) ∨ SqT K H p (ys.map V.str)) ∧ (ys.map (·.length)).sum + ys.length * a.length ≤ 16777216 ∧ Q (.str (Txt.join a ys)) H
  | .count => fun x xs H Q => ∃ a b, x = .str a ∧ xs = [.str b] ∧ Q (.int (Txt.count a b)) H
  | .index => fun x xs H Q => ∃ a b k, x = .str a ∧ xs = [.str b] ∧ Txt.index0 a b = some k ∧ Q (.int (k : Nat)) H
theorem mt_indexF {X : Cx} : MtR X "str.index" (mfR X.K .index) := by
  intro pins s σ H x xs v us Q I rx rs h
  obtain ⟨a, b, k, rfl, rfl, hk, q⟩ := h
  obtain ⟨t, rfl⟩ := rx
  cases rs with
  | cons r1 rs =>
    cases rs
    obtain ⟨u, rfl⟩ := r1
    cases q0 : Builtin.Str.occurrences a b 0 a.length 1 with
    | nil => unfold Txt.index0 at hk; rw [q0] at hk; cases hk
    | cons k' rest =>
      unfold Txt.index0 at hk; rw [q0] at hk
      have e : k' = k := Option.some.inj hk
      subst e
      exact PySem.SC.index q0 ⟨.int (k' : Nat), H, I.tok _, ⟨_, rfl⟩, q⟩
theorem one_sign {b : Str} {c : Nat} (h : b.cps.toList = [c]) : b = ⟨#[c]⟩ := by
  obtain ⟨a⟩ := b
  congr 1
  exact Array.toList_inj.mp h
section
variable {S : Ctx} {o e : Expr} {pos apos : Pos} {mo me : M PyData}
theorem sd_mt (m : Mf) (ho : SD S o mo) (he : SD S e me) (hn : notStar e = true) (hb : ∀ X, S.has X → attributeBase o m.nm X.env (eval o X.env) = eval o X.env) (hl : (apos.endLine == pos.line) = true) :
    SD S (.Call (.Attribute o m.nm apos) [e] [] pos) (mtM m mo me) := .of fun σ env Z H F I Q mm hm k kx kb => by
  have pe : ∀ X, S.has X → PE X (.Call (.Attribute o m.nm apos) [e] [] pos) (tM1 (mfR S.K m) (wE S o) (wE S e)) := fun X hX => by
    cases m with
    | join => rw [← hX.K]; exact pe_m1 PySem.F.slot_str_join PySem.F.type_str_join mt_join (pe_w hX) (pe_w hX) (star_cons hn) (hb X hX) hl
    | count => exact pe_m1 PySem.F.slot_str_count PySem.F.type_str_count mt_count (pe_w hX) (pe_w hX) (star_cons hn) (hb X hX) hl
    | index => rw [← hX.K]; exact pe_m1 PySem.F.slot_str_index PySem.F.type_str_index mt_indexF (pe_w hX) (pe_w hX) (star_cons hn) (hb X hX) hl
  refine ⟨_, pe, ?_⟩
  refine ho.go I hm kx kb fun da e1 va Z1 H1 F1 _ q1 I1 r1 s1 => ?_
  cases r1 with
  | str s hs =>
    have q1 : mm = (me e1).bind fun d e2 => oPd (mfD m s d) e2 := q1
    refine ⟨⟨s, rfl⟩, ?_⟩
    refine he.go I1 q1 (kx.step s1) kb fun d e2 vb Z2 H2 F2 _ q2 I2 r2 s2 => ?_
    cases hr : mfD m s d with
    | none => rw [hr] at q2; exact absurd q2 kb
    | some r =>
      rw [hr] at q2
      have q2 : mm = .ok r e2 := q2
      have fin : ∀ v, Rp Z2 v r → Q v H2 := fun v rv => k _ _ q2 v Z2 H2 F2 I2 rv (s1.trans0 s2)
      cases m with
      | join =>
        cases r2 with
        | @lst p vs ds h1 l1 rr =>
          have hr : ((strsOf ds).bind fun ys => if s.length = 0 ∧ (ys.map (·.length)).sum ≤ 16777216 then some (PyData.str (catS ys)) else none) = some r := hr
          cases q : strsOf ds with
          | none => rw [q] at hr; cases hr
          | some ys =>
            rw [q] at hr
            have hr : (if s.length = 0 ∧ (ys.map (·.length)).sum ≤ 16777216 then some (PyData.str (catS ys)) else none) = some r := hr
            split at hr
            · rename_i hc
              cases hr
              obtain ⟨ev, gs⟩ := rps_strs rr q
              subst ev
              refine ⟨s, p, ys, rfl, rfl, .inl (.inl (.inl (I2.sub _ _ h1))), by rw [hc.1, Nat.mul_zero, Nat.add_zero]; exact hc.2, ?_⟩
              rw [join_cat hc.1]
              exact fin _ (.str _ (catS_g gs (by rw [sizeLine_eq]; exact hc.2)))
            · cases hr
        | _ => cases hr
      | count =>
        cases r2 with
        | str b hb2 =>
          have hr : (match b.cps.toList with | [c] => some (PyData.int ((s.cps.toList.filter (· == c)).length : Int)) | _ => none) = some r := hr
          split at hr
          · rename_i c hc
            cases hr
            have eb := one_sign hc
            refine ⟨s, b, rfl, rfl, ?_⟩
            rw [eb, count_sign]
            exact fin _ (.int _)
          · cases hr
        | _ => cases hr
      | index =>
        cases r2 with
        | str b hb2 =>
          have hr : (match b.cps.toList with | [c] => if c ∈ s.cps.toList then some (PyData.int (s.cps.toList.idxOf c : Int)) else none | _ => none) = some r := hr
          split at hr
          · rename_i c hc
            split at hr
            · rename_i hm'
              cases hr
              have eb := one_sign hc
              exact ⟨s, b, _, rfl, rfl, by rw [eb]; exact index_sign s c hm', fin _ (.int _)⟩
            · cases hr
          · cases hr
        | _ => cases hr
  | _ => exact absurd q1 kb
end
end Vi

set_option Elab.async false
set_option linter.all false
set_option maxRecDepth 100000
namespace Vi
open PySem L2
/-! ### enumerate, zip, reversed over lists -/
theorem wk_pair {J : It} {n : Nat} {G : Hp → Prop} {fx fy : Nat → Option V} {Z0 : Hp} {ds : List PyData} (w : Walk J n G (YPair fx fy)) (hG : ∀ H, Ex Z0 H → G H) (hn : ds.length = n) (hl : n ≤ sizeLine)
    (h : ∀ i x y d, fx i = some x → fy i = some y → ds[i]? = some d → ∃ d1 d2, d = .tuple [d1, d2] ∧ Rp Z0 x d1 ∧ Rp Z0 y d2) : Wk J Z0 ds := by
  refine ⟨by rw [hn]; exact hl, G, YPair fx fy, by rw [hn]; exact w, hG, fun i H v H' d yy hd Z e1 e2 => ?_⟩
  obtain ⟨T, x, y, rfl, hT, rfl, hx, hy⟩ := yy
  obtain ⟨d1, d2, rfl, r1, r2⟩ := h i x y d hx hy hd
  have zT : Z T = none := by
    cases q : Z T with
    | none => rfl
    | some o => have := e2 T o q; rw [hT] at this; cases this
  have ez : Ex Z (upd Z T (.tup [x, y])) := fun b o e => by rw [upd_ne (fun z => by rw [z, zT] at e; cases e)]; exact e
  refine ⟨upd Z T (.tup [x, y]), ez, fun b o e => ?_, fun b o e => ?_, .tup upd_same (by show 2 ≤ sizeLine; decide) (.cons ((r1.mono e1).mono ez) (.cons ((r2.mono e1).mono ez) .nil)), fun b hb => ?_⟩
  · by_cases q : b = T
    · subst q; rw [upd_same] at e ⊢; exact e
    · rw [upd_ne q] at e ⊢; exact e2 b o e
  · rw [upd_ne (fun z => by rw [z, hT] at e; cases e)]; exact e
  · by_cases q : b = T
    · subst q; exact .inr hT
    · rw [upd_ne q] at hb; exact .inl hb
def enL (ds : List PyData) : List PyData := ds.zipIdx.map fun p => .tuple [.int (p.2 : Nat), p.1]
def zpL (ds es : List PyData) : List PyData := (ds.zip es).map fun p => .tuple [p.1, p.2]
def enM (ma : M PyData) : M (List PyData) := fun env => (ma env).bind fun d e1 => match d with
  | .list ds => .ok (enL ds) e1
  | .str x => .ok (enL (signs x)) e1
  | _ => .bad
def rvM (ma : M PyData) : M (List PyData) := fun env => (ma env).bind fun d e1 => match d with
  | .list ds => .ok ds.reverse e1
  | _ => .bad
def zpM (ma mb : M PyData) : M (List PyData) := fun env => (ma env).bind fun d e1 => (mb e1).bind fun d2 e2 => match d, d2 with
  | .list ds, .list es => .ok (zpL ds es) e2
  | _, _ => .bad
section
variable {S : Ctx} {a b tg : Expr} {ma mb : M PyData} {pos : Pos}
theorem walk_enumS {x : Str} : Walk (IteS x) x.cps.size (fun _ => True) (YPair (fun i => some (.int (i : Nat))) (fun i => x.cps[i]?.map fun c => V.str ⟨#[c]⟩)) := by
  refine ⟨fun i _ hi q => hi, fun _ q => Nat.le_refl _, fun i H v H' _ q y => ?_⟩
  obtain ⟨T, c, h1, h2, h3, h4⟩ := y
  exact ⟨T, .int (i : Nat), .str ⟨#[c]⟩, h1, h2, h4, rfl, by show (x.cps[i]?).map _ = _; rw [h3]; rfl⟩
theorem enL_get {ds : List PyData} {i : Nat} {d : PyData} (hd : (enL ds)[i]? = some d) : ∃ u, ds[i]? = some u ∧ d = .tuple [.int (i : Nat), u] := by
  unfold enL at hd
  rw [List.getElem?_map, List.getElem?_zipIdx] at hd
  cases q : ds[i]? with
  | none => rw [q] at hd; cases hd
  | some u =>
    rw [q] at hd
    refine ⟨u, rfl, ?_⟩
    have := Option.some.inj hd
    rw [← this]; simp
theorem enL_len {ds : List PyData} : (enL ds).length = ds.length := by unfold enL; rw [List.length_map, List.length_zipIdx]
theorem si_enum {p tpos : Pos} {elts : List Expr} {k0 : Nat} (n : BltName S "enumerate") (ha : SD S a ma) (hn : notStar a = true) : SIt S (.Tuple elts k0 tpos) (.Call (.Name "enumerate" p) [a] [] pos) (enM ma) := fun σ env Z H F I R k kx kb => by
  obtain ⟨mm, hm⟩ : ∃ mm, mm = enM ma env := ⟨_, rfl⟩
  rw [← hm] at kx kb
  refine ⟨iEnumQ S.K (wA S [a]), fun X hX => by rw [← hX.K]; exact pi_enumQ (n.g hX).1 (n.g hX).2 (pa_w hX) (star1 hn), ?_⟩
  refine ⟨tCons (wE S a) tNil, fun X hX => pa_cons (pe_w hX) pa_nil (star_cons hn), ?_⟩
  refine ha.go I hm kx kb fun d e1 va Z1 H1 F1 _ q1 I1 r1 s1 => ?_
  cases r1 with
  | @lst p1 vs ds h1 l1 rr =>
    have q1 : mm = .ok (enL ds) e1 := q1
    refine .inl ⟨p1, vs, rfl, .inl (.inl (I1.sub _ _ h1)), k _ _ (hm.symm.trans q1) _ Z1 H1 F1 I1 (wk_pair (walk_enum (K := S.K)) (fun H e => .inl (.inl (e _ _ h1))) (by rw [enL_len, rr.length]) l1 fun i x y d hx hy hd => ?_) s1⟩
    have hx : V.int (i : Nat) = x := Option.some.inj hx
    subst hx
    obtain ⟨u, q, e⟩ := enL_get hd
    obtain ⟨v, hv, rv⟩ := rr.get q
    rw [hv] at hy
    cases hy
    exact ⟨.int (i : Nat), u, e, .int _, rv⟩
  | str x hx0 =>
    have q1 : mm = .ok (enL (signs x)) e1 := q1
    have sl : (signs x).length = x.cps.size := by unfold signs; simp
    refine .inr ⟨x, rfl, k _ _ (hm.symm.trans q1) _ Z1 H1 F1 I1 (wk_pair walk_enumS (fun H e => trivial) (by rw [enL_len, sl]) hx0.1 fun i x' y d hx hy hd => ?_) s1⟩
    have hx : V.int (i : Nat) = x' := Option.some.inj hx
    subst hx
    obtain ⟨u, q, e⟩ := enL_get hd
    unfold signs at q
    rw [List.getElem?_map, Array.getElem?_toList] at q
    cases qc : x.cps[i]? with
    | none => rw [qc] at q; cases q
    | some c =>
      rw [qc] at q hy
      cases q
      cases hy
      exact ⟨.int (i : Nat), .str ⟨#[c]⟩, e, .int _, .str _ (.of (l := [c]) (by show 1 ≤ sizeLine; decide) fun z hz => by
        obtain rfl : z = c := List.mem_singleton.mp hz
        exact StrG.mem hx0 _ (Array.mem_toList_iff.mpr (Array.mem_of_getElem? qc)))⟩
  | _ => exact absurd q1 kb
theorem si_rev {p : Pos} (n : BltName S "reversed") (ha : SD S a ma) (hn : notStar a = true) : SIt S tg (.Call (.Name "reversed" p) [a] [] pos) (rvM ma) := fun σ env Z H F I R k kx kb => by
  obtain ⟨mm, hm⟩ : ∃ mm, mm = rvM ma env := ⟨_, rfl⟩
  rw [← hm] at kx kb
  refine ⟨iRev S.K (wA S [a]), fun X hX => by rw [← hX.K]; exact pi_reversed (n.g hX).1 (n.g hX).2 (pa_w hX) (star1 hn), ?_⟩
  refine ⟨tCons (wE S a) tNil, fun X hX => pa_cons (pe_w hX) pa_nil (star_cons hn), ?_⟩
  refine ha.go I hm kx kb fun d e1 va Z1 H1 F1 _ q1 I1 r1 s1 => ?_
  cases r1 with
  | @lst p1 vs ds h1 l1 rr =>
    have q1 : mm = .ok ds.reverse e1 := q1
    refine ⟨p1, vs, rfl, .inl (.inl (I1.sub _ _ h1)), k _ _ (hm.symm.trans q1) _ Z1 H1 F1 I1 ⟨by rw [List.length_reverse, ← rr.length]; exact l1, (fun H => SqL S.K H p1 vs), (fun i H x H' => H' = H ∧ vs[vs.length - 1 - i]? = some x), by rw [List.length_reverse, ← rr.length]; exact walk_rev (K := S.K), fun H e => .inl (.inl (e _ _ h1)), fun i H x H' d yy hd Z e1 e2 => ?_⟩ s1⟩
    obtain ⟨rfl, hx⟩ := yy
    have hi : i < ds.length := by rw [← List.length_reverse]; exact (List.getElem?_eq_some_iff.mp hd).1
    rw [List.getElem?_reverse hi] at hd
    obtain ⟨v, hv, rv⟩ := rr.get hd
    rw [← rr.length, hx] at hv
    cases hv
    exact ⟨Z, Same.refl _, e2, Same.refl _, rv.mono e1, fun b h => .inl h⟩
  | _ => exact absurd q1 kb
theorem si_zip {p tpos : Pos} {elts : List Expr} {k0 : Nat} (n : BltName S "zip") (ha : SD S a ma) (hb : SD S b mb) (hn : notStar a = true) (hn2 : notStar b = true) : SIt S (.Tuple elts k0 tpos) (.Call (.Name "zip" p) [a, b] [] pos) (zpM ma mb) := fun σ env Z H F I R k kx kb => by
  obtain ⟨mm, hm⟩ : ∃ mm, mm = zpM ma mb env := ⟨_, rfl⟩
  rw [← hm] at kx kb
  refine ⟨iZip S.K (wA S [a, b]), fun X hX => by rw [← hX.K]; exact pi_zip (n.g hX).1 (n.g hX).2 (pa_w hX) (star_cons hn) (by rw [star1 hn2]; rfl), ?_⟩
  refine ⟨tCons (wE S a) (tCons (wE S b) tNil), fun X hX => pa_cons (pe_w hX) (pa_cons (pe_w hX) pa_nil (star_cons hn2)) (star_cons hn), ?_⟩
  refine ha.go I hm kx kb fun d e1 va Z1 H1 F1 _ q1 I1 r1 s1 => ?_
  refine hb.go I1 q1 (kx.step s1) kb fun d2 e2 vb Z2 H2 F2 _ q2 I2 r2 s2 => ?_
  cases r1 with
  | @lst p1 vs ds h1 l1 rr =>
    cases r2 with
    | @lst p2 ws es h2 l2 rs =>
      have q2 : mm = .ok (zpL ds es) e2 := q2
      have h1' := s2.zz _ _ h1
      refine ⟨p1, p2, vs, ws, rfl, .inl (.inl (I2.sub _ _ h1')), .inl (.inl (I2.sub _ _ h2)), k _ _ (hm.symm.trans q2) _ Z2 H2 F2 I2 (wk_pair (walk_zip (K := S.K) (a := p1) (b := p2) (xs := vs) (ys := ws) rfl) (fun H e => ⟨.inl (.inl (e _ _ h1')), .inl (.inl (e _ _ h2))⟩) (by unfold zpL; rw [List.length_map, List.length_zip, rr.length, rs.length]) (by omega) fun i x y d hx hy hd => ?_) (s1.trans0 s2)⟩
      unfold zpL at hd
      rw [List.getElem?_map] at hd
      cases q : (ds.zip es)[i]? with
      | none => rw [q] at hd; cases hd
      | some u =>
        rw [q] at hd
        obtain ⟨g1, g2⟩ := List.getElem?_zip_eq_some.mp q
        obtain ⟨v, hv, rv⟩ := rr.get g1
        obtain ⟨w, hw, rw'⟩ := rs.get g2
        have hx : vs[i]? = some x := hx
        have hy : ws[i]? = some y := hy
        rw [hv] at hx; rw [hw] at hy
        cases hx; cases hy
        exact ⟨u.1, u.2, (Option.some.inj hd).symm, rv.mono s2.zz, rw'⟩
    | _ => exact absurd q2 kb
  | _ => cases r2 <;> exact absurd q2 kb
end
end Vi

set_option Elab.async false
set_option linter.all false
set_option maxRecDepth 100000
namespace Vi
open PySem L2
/-! ### a, b = e -/
def notTupE : Expr → Bool
  | .Tuple _ _ _ => false
  | _ => true
theorem noSwapT {ts : List Expr} {kt : Nat} {tp : Pos} {e : Expr} {l : Nat} {env : PySem.Env} (h : notComp e = true) : swapsWithSole [.Tuple ts kt tp] e l env = pure false := by
  show swapsWith e (some (.Tuple ts kt tp)) l env = pure false
  cases e <;> first | rfl | (cases h)
theorem noStores {ts : List Expr} {kt : Nat} {tp : Pos} {e : Expr} {env : PySem.Env} (h : notTupE e = true) : swappedStores [.Tuple ts kt tp] e env = pure none := by
  cases e <;> first | rfl | (cases h)
def asgTM (own js : List Nat) (me : M PyData) (bd : PyData → Env → Option Env) : MS := fun env => if js.any own.contains = true then .bad else (me env).so fun d e1 => match bd d e1 with
  | some e2 => .nx e2
  | none => .bad
section
variable {S : Ctx} {own : List Nat} {e a b : Expr} {pos : Pos}
theorem ss_asgT {js : List Nat} {ts : List Expr} {kt : Nat} {tp : Pos} {me : M PyData} {bd : PyData → Env → Option Env} (hg : SG S (.Tuple ts kt tp) js bd) (he : SD S e me) (hc : notComp e = true) (ht : notTupE e = true) :
    SS S own (.Assign [.Tuple ts kt tp] e pos) (asgTM own js me bd) := fun σ env Z H F I D w => by
  refine ⟨tAsg (wE S e) (wG S (.Tuple ts kt tp)), fun X hX => ps_asg (pe_w hX) (pg_w hX) (noSwapT hc) (noStores ht) rfl, ?_⟩
  obtain ⟨hj, hm⟩ : js.any own.contains = false ∧ asgTM own js me bd env = (me env).so fun d e1 => match bd d e1 with | some e2 => .nx e2 | none => .bad := by
    have nb := w.nb
    unfold asgTM at nb ⊢
    cases q : js.any own.contains with
    | false => exact ⟨rfl, by rw [if_neg Bool.false_ne_true]⟩
    | true => rw [if_pos q] at nb; exact absurd rfl nb
  refine he.so I w hm fun d e1 v Z1 H1 F1 _ q I1 r1 s1 => ?_
  cases qb : bd d e1 with
  | none => rw [qb] at q; exact absurd q w.nb
  | some e2 =>
    rw [qb] at q
    exact hg σ e1 e2 Z1 H1 F1 v d I1 r1 qb _ fun σb Fb Ib sb kb lb => w.nx _ q σb Z1 H1 Fb Ib (s1.trans0 sb) (kp_js hj kb)
end
end Vi

set_option Elab.async false
set_option linter.all false
set_option maxRecDepth 100000
set_option maxHeartbeats 4000000
namespace Vi
open PySem L2
/-! ### isinstance of a caught error that has fields -/
section
open PySem.W PySem.Spec PySem.Calls PyProof.Rows
variable {P0 : Program} {w0 : World} {A0 : Around} {E0 : Value → Shared → Prop} {s0 : Shared} {Kf : Frag} {ex Cl : Addr} {oex odx : Obj}
theorem exc_class {R0 : Option Value → Shared → Prop} (C : L2.ExcC Kf Cl) (kin : Kf.In s0.heap) (inst : InstAt s0.heap ex oex Cl (some odx)) (hR : R0 (some (.ref Cl)) { s0 with toks := s0.toks + 1 }) : wpAny (model P0 w0) A0 (getAttr? (.ref ex) "__class__") R0 E0 s0 := by
  have found : findObj Kf Cl (some odx) "__class__" = some (.bind (.builtin "getset_descriptor.__get__") (.builtin "object.__class__")) := findObj_data (by obtain ⟨cd, hc, _⟩ := any_some C.hd; rw [hc]; rfl) C.ha C.hn C.ht
  obtain ⟨heap0, gens0, dr0, tk0, os0⟩ := s0
  have ty0 := inst.type (M := model P0 w0)
  have lga := looks_findIn (M := model P0 w0) kin C.hg
  have lgt := looks_findIn (M := model P0 w0) kin C.hk
  have lfd := looks_find (M := model P0 w0) kin inst found
  have isb : Looks (model P0 w0) heap0 (isInstance (.ref ex) (.type "BaseException")) true := ty0.andThen (looks_subIn kin C.hs)
  have z0 : (false && onTheHeap (Value.builtin "BaseException.__getattribute__")) = false := rfl
  have z2 : (Value.builtin "BaseException.__getattribute__" == Value.builtin "object.__getattribute__") = false := by decide +kernel
  have z1 : (onTheHeap (Value.ref Cl) && Value.builtin "BaseException.__getattribute__" == Value.builtin "object.__getattribute__") = false := by rw [z2]; rfl
  unfold getAttr? getAttrBy? getAttrBy
  refine wpAny_bind (wpAny_mkText (wpAny_bind (wpAny_attempt (wpAny_holding (wpAny_bind (ty0.at (wpAny_bind (lga.at ?_))))))))
  show wpAny _ _ (if (onTheHeap (Value.ref Cl) && Value.builtin "BaseException.__getattribute__" == Value.builtin "object.__getattribute__") = true then _ else _) _ _ _
  rw [z1, if_neg (fun q => Bool.noConfusion q)]
  unfold getAttrByItsOwn hookBefore
  refine wpAny_bind ?_
  rw [if_pos (show onTheHeap (Value.ref Cl) = true from rfl)]
  refine lgt.at ?_
  refine wpAny_bind (wpAny_attempt (wpAny_holding ?_))
  unfold callGetattribute
  rw [z0, if_neg (fun q => Bool.noConfusion q)]
  unfold boundAndCalled
  rw [PySem.F.excAttr_ValueError.ga.bind (.ref ex)]
  refine wpAny_bind (wpAny_pure ?_)
  show wpAny _ _ (call (.builtin "BaseException.__getattribute__") [.ref ex, .str "__class__" tk0]) _ _ _
  refine wpAny_call (codeAny_call_builtin PySem.F.excAttr_ValueError.ga.plain PySem.F.entry_bexc_ga ?_)
  refine @check_slot (model P0 w0) _ _ ⟨heap0, gens0, dr0, tk0 + 1, os0⟩ "BaseException.__getattribute__" "BaseException" "__getattribute__" (.ref ex) [.str "__class__" tk0] [] _ (by decide +kernel) (by decide +kernel) isb (PySem.F.args_bexc_ga (.ref ex) (.str "__class__" tk0)) ?_
  unfold Builtin.«object.__getattribute__»
  refine wpAny_bind (wpAny_of_eq (a := ((Value.ref ex : Value), [Value.str "__class__" tk0])) (by first | rfl | (simp only [slotArgs]; rfl)) ?_)
  refine wpAny_bind (wpAny_pure (wpAny_bind (ty0.at (wpAny_bind (lfd.at ?_)))))
  show wpAny _ _ (holding [Value.builtin "object.__class__"] (call (.builtin "getset_descriptor.__get__") [.builtin "object.__class__", .ref ex, .ref Cl]) >>= ret) _ _ _
  refine wpAny_bind (wpAny_holding (wpAny_call (class_get (s := ⟨heap0, gens0, dr0, tk0 + 1, os0⟩) (ox := oex) (od := some odx) kin inst C.hm ?_)))
  refine wpAny_pure ?_
  show wpAny _ _ (handedOut (.ref Cl)) _ _ _
  rw [handedOut_of (v := .ref Cl) rfl]
  first
    | exact wpAny_pure (wpAny_pure hR)
    | exact wpAny_pure hR
    | exact wpAny_pure (wpAny_bind (wpAny_pure (wpAny_pure hR)))
theorem exc_kit (C : L2.ExcC Kf Cl) : KitX Kf (.ref ex) (.ref Cl) (fun h => ∃ o, InstAt h ex oex Cl (some o)) := by
  obtain ⟨cd0, hcd, _⟩ := any_some C.hd
  refine ⟨fun _ _ _ ⟨_, inst⟩ => inst.type, fun _ _ kin _ => ?_, fun h tp dd its n sl kin htp => ?_, fun kin ⟨_, inst⟩ k => exc_class C kin inst k⟩
  · unfold clsIn at hcd
    split at hcd
    · rename_i c' d' cd' sl' ho
      intro A' Q' E' s' kk q
      unfold isType loadHead
      exact wpAny_bind (wpAny_loadPart (kk _ _ (kin _ _ ho)) (wpAny_pure q))
    · cases hcd
  · refine Bool.eq_false_iff.mpr fun q => ?_
    have e : Cl = tp := Value.ref.inj (beq_iff_eq.mp q)
    subst e
    unfold clsIn at hcd
    split at hcd
    · rename_i c' d' cd' sl' ho
      have z := (kin _ _ ho).symm.trans htp
      cases z
    · cases hcd
end
/-- isinstance(e, c), e the caught error with fields in the dict at dd -/
def rIsF (K : PySem.W.Frag) (D a dd : Addr) : List V → Hp → VK → Prop := fun xs H Q => ∃ (c : V) (cv : Value) (b : Bool) (fs : List (Str × V)), xs = [.ref a, c] ∧ (∀ u, RelV c u → u = cv) ∧ PySem.W.kitOne K (.ref D) cv = some b ∧ H dd = some (.xd fs) ∧ Q (.bl b) H
theorem call_isF {X : Cx} {a D dd : Addr} {oe : Obj} {pn : List (Addr × Obj)} (C : ExcC X.K D) (hz : Zc (.ref D) (some dd) oe) (hf : ∃ vs, oe.data = .fields vs) : CallR (X.suite a ((a, oe) :: pn)) (.builtin "isinstance") (rIsF X.K D a dd) := by
  rintro pins s σ H xs us Q I r ⟨c, cv, b, fs, rfl, hcv, e, ed, q⟩
  cases r with
  | cons rx rr =>
    cases rr with
    | cons rt rr =>
      cases rr
      cases rx
      have ec := hcv _ rt
      subst ec
      obtain ⟨hget, _⟩ := I.pin (a, oe) (List.mem_append.mpr (.inl List.mem_cons_self))
      obtain ⟨vs, hv⟩ := hf
      have hx : ObjOk X.prog X.w H s.heap dd (.xd fs) := I.hok dd _ ed
      obtain ⟨mA, hns, hr⟩ := hx
      obtain ⟨od, ho, hl⟩ := lookIn_ns hns
      have J : PySem.W.InstAt s.heap a oe D (some od) := ⟨hget, hz.1, by unfold PySem.W.notCls; rw [hv] <;> rfl, by rw [hz.2]; exact ho⟩
      exact PySem.W.kia_one (exc_kit (oex := oe) C) I.kIn ⟨od, J⟩ e (fun z => nomatch z) fun tk => ⟨.bl b, H, I.kept (t' := tk) fun _ _ z => z, rfl, q⟩
end Vi

set_option Elab.async false
set_option linter.all false
set_option maxRecDepth 100000
set_option maxHeartbeats 4000000
namespace Vi
open PySem L2
/-! ### own error classes with one field, set by __init__ under its own name -/
structure ECls (K : PySem.W.Frag) (mg : Str → Option Value) (x fld : Str) (C fI : Addr) : Prop where
  o : OexC K C
  f : XfC K C
  i : ExcC K C
  nf : PySem.W.findIn K (.ref C) fld = some none
  iC : PySem.W.findIn K (.ref C) "__init__" = some (some (.ref fI))
  tI : PySem.W.typeIn K (.ref fI) = some (.type "function")
  g : mg x = some (.ref C)
def spInit (K : PySem.W.Frag) (C : Addr) (fld : Str) : Sp := fun vs H Q _ => ∃ (a : Addr) (v : V), vs = [.ref a, v] ∧ OexC K C ∧ PySem.W.findIn K (.ref C) fld = some none ∧ H a = some (exo a C none) ∧
  ∀ dx, H dx = none → dx ≠ a → Q .non (upd (upd H dx (exd dx [(fld, v)])) a (exo a C (some dx)))
/-- the text of such an __init__ -/
def isInit (fld : Str) : List Stmt → Bool
  | [.Assign [.Attribute (.Name s _) f _] (.Name v _) _] => s == ("self" : Str) && f == fld && v == fld
  | _ => false
section
variable {P : Program} {w : World} {K : PySem.W.Frag} {mg : Str → Option Value} {base : Heap}
theorem init_ok {qual fld : Str} {st : Stmt} {C fI : Addr} {fd : FuncData} (F : Fun K "__init__" qual st fI fd) (Sc : FnScope ["self", fld] ["self", fld] (defScope st)) (hb : isInit fld (defBody st) = true)
    (d1 : (fld == ("__debug__" : Str)) = false) (d2 : (fld == ("__classdict__" : Str)) = false) : FnOk P w K mg base CX0 1 fI fd ["self", fld] (spInit K C fld) := by
  refine F.ok Sc (fun vs H Q E h => ?_) (fun cdv A outer s H vs Q E hr h => ?_)
  · obtain ⟨a, v, rfl, _⟩ := h; rfl
  · obtain ⟨a, v, rfl, T, hno, ha, k⟩ := h
    have vis : ∀ x ∈ (["self", fld] : List Str), Vis (defScope st) x := fun x hx => (Sc.par x hx).elim .inl fun z => .inr (.inl z)
    unfold isInit at hb
    split at hb
    · rename_i s1 q1 f1 q2 v1 q3 q4 hst
      simp only [Bool.and_eq_true, beq_iff_eq] at hb
      obtain ⟨⟨rfl, rfl⟩, rfl⟩ := hb
      rw [hst]
      refine ⟨_, pss_one (ps_ost (pe_var (i := 0) rfl (vis _ (by simp)) (by decide) (by decide)) (pe_var (i := 1) rfl (vis _ (by simp)) d1 d2) rfl), ?_⟩
      refine ⟨v, rfl, .ref a, rfl, a, C, rfl, T, hno, .inl ⟨ha, fun dx hd ne => ?_⟩⟩
      exact k dx hd ne
    · cases hb
end
section
open PySem.W PyProof.Rows
variable {X : Cx}
/-- C(e), C an own class whose __init__ keeps a promise; the context that the kit calls L2N -/
theorem pmkN {CX : CXT} {x : Str} {e : Expr} {ta : TA} {p pos : Pos} {C fI : Addr} {k : Nat} {fd : FuncData} {ps : List Str} {sp : Sp} (T : OexC X.K C) (iC : PySem.W.findIn X.K (.ref C) "__init__" = some (some (.ref fI))) (tI : PySem.W.typeIn X.K (.ref fI) = some (.type "function"))
    (F1 : FnOk X.prog X.w X.K X.mg X.base CX k fI fd ps sp) (room : Room (k + 1) X.A) (bi : Binds X.K fd ps []) (thru : Passes CX X (fun _ _ _ => False)) (gl : Gl X x) (gm : X.mg x = some (.ref C)) (ha : PA X [e] ta)
    (nd : (x == ("__debug__" : Str)) = false) (hs : starEach [e] X.env = (false, eval e X.env) :: starEach [] X.env) :
    L2N.PMk X (.Call (.Name x p) [e] [] pos) (tMkO C sp [] ta) := by
  intro pins s σ H Q inv rd
  obtain ⟨nm, q, N, bs, bm, sn, sub, ab, col, dd, k0, k1, k2, k3, k5, cobj, vbm⟩ := T.cls
  refine wpAny_Call_Name_kw (ld_glob inv gl gm ?_ nd)
  refine PySem.W.callWith_K (h₀ := X.base) inv.ok.mod.kin T.kC (thn (ha.run pos pins s σ H _ inv rd) fun us s1 ⟨vs, H1, inv1, vals, short, rd1⟩ => ⟨inv1.kIn, ?_⟩) hs rfl
  show wpAny _ _ (call (.ref C) us) _ _ _
  obtain ⟨hp, gens, drawn, toks, os⟩ := s1
  have grow : hp.objs.size ≤ hp.objs.size + 1 := Nat.le_succ _
  have rd2 := rd1 (hp.objs.size + 1) (inv1.hok.fresh grow)
  rw [List.append_nil] at rd2
  have keeps : ∀ b o, hp.get? b = some o → ((hp.push (PySem.W.kdv_tup us)).push (PySem.HandSPX.excO C hp.objs.size)).get? b = some o := fun b o e => Heap.get?_push_of_some _ (Heap.get?_push_of_some _ e)
  have made : ((hp.push (PySem.W.kdv_tup us)).push (PySem.HandSPX.excO C hp.objs.size)).get? (hp.objs.size + 1) = some (PySem.HandSPX.excO C hp.objs.size) := by heap_get
  have inv2 : Inv X pins σ (upd H1 (hp.objs.size + 1) (exo (hp.objs.size + 1) C none)) ⟨(hp.push (PySem.W.kdv_tup us)).push (PySem.HandSPX.excO C hp.objs.size), gens, drawn, toks, os⟩ :=
    inv1.laid (t' := toks) (a := hp.objs.size + 1) (o := exo (hp.objs.size + 1) C none) (h' := (hp.push (PySem.W.kdv_tup us)).push (PySem.HandSPX.excO C hp.objs.size)) keeps grow (exo_ok made)
  have vals2 : Vals (V.ref (hp.objs.size + 1) :: vs) (Value.ref (hp.objs.size + 1) :: us) := .cons rfl vals
  have args : (Value.ref (hp.objs.size + 1) :: us).length = ps.length := by rw [← vals2.length]; exact F1.len _ _ _ _ rd2
  have few : us.length ≤ sizeLine := by
    rw [← Paired.length vals, sizeLine_eq]
    omega
  have bound := bi _ (Value.ref (hp.objs.size + 1) :: us) inv2.kIn (by rw [List.append_nil]; exact args)
  rw [List.append_nil] at bound
  refine wpAny_call (PySem.HandSPX.call_own PySem.F.excBase_ValueError (fun Y => PySem.HandSPX.refsVE_contains Y bm vbm) (inv1.kIn _ _ cobj) (PySem.W.looks_findIn inv1.kIn iC) (fun self => PySem.W.bind_fn inv1.kIn self tI) few
    (codeAny_mono (F1.run _ X.stack _ _ ⟨Value.ref (hp.objs.size + 1) :: us, []⟩ (Value.ref (hp.objs.size + 1) :: us) _ _ (fun _ _ _ => False) (room.make C us []) (inv2.env0.make C us []) bound vals2 rd2) fun r s' post => ?_))
  cases r with
  | error er => exact thru pins σ _ _ er s' inv2 post
  | ok fl =>
    cases fl with
    | ret u =>
      obtain ⟨v, H2, os2, bare2, un2, hok2, rv, ev, d, fs, ea, ed, hd1, q2⟩ := post
      subst ev
      obtain ⟨h2, g2, d2, t2, os'⟩ := s'
      obtain ⟨t0, G, J, kG, ge, hoe, na⟩ := mk_end0 (d2 := d2) (t2 := t2) inv1 grow keeps un2 hok2 os2 bare2 ea ed hd1
      exact ⟨rv, _, _, _, ⟨G, g2, d2, t2, os'⟩, _, .ref C, some d, rfl, J, kG, ge, hoe, ⟨rfl, rfl, fun vs' e' => by cases e'; rfl⟩, rfl, rfl, na, rfl, bare2, raises_own T.exC T.tyC, q2⟩
    | next => exact False.elim post
    | brk => exact False.elim post
    | cont => exact False.elim post
end
def raisM (c : Nat) (me : M PyData) : MS := fun env => (me env).so fun d e1 => if closedD d = true then .ex ⟨c, some d⟩ e1 else .bad
section
variable {S : Ctx} {own : List Nat} {e : Expr} {pos p2 : Pos}
theorem ss_raise {c : Nat} {x fld : Str} {p : Pos} {C fI : Addr} {fd : FuncData} {me : M PyData} (T : ECls S.K S.mg x fld C fI) (F1 : FnOk S.P S.w S.K S.mg S.base CX0 1 fI fd ["self", fld] (spInit S.K C fld)) (hb : Binds S.K fd ["self", fld] []) (hk : 2 ≤ S.k)
    (hg : S.scope.names.lookup x = some .globalImplicit) (hd : (x == ("__debug__" : Str)) = false) (he : SD S e me) (hn : notStar e = true)
    (hx : ∀ (v : PyData) (u : V) (dx : Addr) (H' : Hp), Rp H' u v → closedD v = true → H' dx = some (.xd [(fld, u)]) → S.exr ⟨c, some v⟩ (.ref C) (some dx) H') :
    SS S own (.Raise (some (.Call (.Name x p) [e] [] pos)) none p2) (raisM c me) := fun σ env Z H F I D w => by
  refine ⟨fun _ σ H => tMkO C (spInit S.K C fld) [] (tCons (wE S e) tNil) σ H fun cls d H' => S.W cls d σ H', fun X hX => ?_, ?_⟩
  · refine L2N.ps_raise hX.calm hX.takes ?_
    exact pmkN (k := 1) (CX := CX0) (by rw [hX.K]; exact T.o) (by rw [hX.K]; exact T.iC) (by rw [hX.K]; exact T.tI) (by rw [hX.prog, hX.w, hX.K, hX.mg, hX.base]; exact F1) (hX.room.mono hk) (by rw [hX.K]; exact hb) pass0 (by show X.env.scope.names.lookup x = _; rw [hX.scope]; exact hg) (by rw [hX.mg]; exact T.g) (pa_cons (pe_w hX) pa_nil (star_cons hn)) hd (star_cons hn)
  · obtain ⟨mm, hm⟩ : ∃ mm, mm = raisM c me env := ⟨_, rfl⟩
    rw [← hm] at w
    refine he.so I w hm fun d e1 v Z1 H1 F1 _ q I1 r1 s1 => ?_
    have q : mm = (if closedD d = true then .ex ⟨c, some d⟩ e1 else .bad) := q
    split at q
    · rename_i hc
      refine ⟨by show 1 ≤ 1000; decide, fun a ha => ⟨a, v, rfl, T.o, T.nf, upd_same, fun dx hdx ne => ⟨rfl, dx, [(fld, v)], upd_same, ?_, ?_, ?_⟩⟩⟩
      · rw [upd_ne ne, upd_same]
      · rw [upd_ne ne] at hdx; exact hdx
      · have hd1 : H1 dx = none := by rw [upd_ne ne] at hdx; exact hdx
        have eH : upd (del (upd (upd (upd H1 a (exo a C none)) dx (exd dx [(fld, v)])) a (exo a C (some dx))) a) dx (.xd [(fld, v)]) = upd H1 dx (.xd [(fld, v)]) := by
          funext b
          by_cases q1 : b = dx
          · subst q1; rw [upd_same, upd_same]
          · rw [upd_ne q1, upd_ne q1]
            by_cases q2 : b = a
            · subst q2; rw [del_same]; exact ha.symm
            · rw [del_ne q2, upd_ne q2, upd_ne q1, upd_ne q2]
        show S.W (.ref C) (some dx) σ _
        rw [eH]
        obtain ⟨s2, I2, hz⟩ := I1.freshO (o := .xd [(fld, v)]) hd1
        exact w.ex _ e1 q σ Z1 _ _ (.ref C) (some dx) I2 (s1.trans0 s2.drop) .refl (hx d v dx _ (rp_closed r1 hc) hc upd_same)
    · exact absurd q w.nb
end
end Vi

set_option Elab.async false
set_option linter.all false
set_option maxRecDepth 100000
set_option maxHeartbeats 4000000
namespace Vi
open PySem L2
/-! ### except C as e: what a suite asks of e, and what it returns -/
/-- what the suite knows: the error stands in slot i, its class is C, its field fld is worth v -/
structure Hst (i : Nat) (a dd : Addr) (fld : Str) (v : PyData) (σ : St) (H : Hp) : Prop where
  sl : σ[i]? = some (some (.ref a))
  fl : ∃ w, H dd = some (.xd [(fld, w)]) ∧ Rp H w v
section
variable {S : Ctx} {i : Nat} {n fld : Str} {C a dd : Addr} {v : PyData} {e e2 : Expr} {es : List Expr} {pos p1 p2 : Pos}
/-- a test of the suite that is worth b -/
def HTj (S : Ctx) (i : Nat) (fld : Str) (C a dd : Addr) (v : PyData) (e : Expr) (b : Bool) : Prop := ∃ t : TT, (∀ X oe pn, S.has X → L2N.Zn (.ref C) (some dd) oe → (∃ vs, oe.data = .fields vs) → PT (X.suite a ((a, oe) :: pn)) e t) ∧
  ∀ σ H Q, Hst i a dd fld v σ H → Q b H → t σ H Q
def HWj (S : Ctx) (i : Nat) (fld : Str) (C a dd : Addr) (v : PyData) (e : Expr) (b : Bool) : Prop := ∃ t : TT, (∀ X oe pn, S.has X → L2N.Zn (.ref C) (some dd) oe → (∃ vs, oe.data = .fields vs) → PW (X.suite a ((a, oe) :: pn)) e t) ∧
  ∀ σ H Q, Hst i a dd fld v σ H → Q b H → t σ H Q
/-- a value of the suite that is worth d -/
def HEj (S : Ctx) (i : Nat) (fld : Str) (C a dd : Addr) (v : PyData) (e : Expr) (d : PyData) : Prop := ∃ t : TE, (∀ X oe pn, S.has X → L2N.Zn (.ref C) (some dd) oe → (∃ vs, oe.data = .fields vs) → PE (X.suite a ((a, oe) :: pn)) e t) ∧
  ∀ σ H (Q : VK), Hst i a dd fld v σ H → (∀ u, Rp H u d → Q u H) → t σ H Q
def HAj (S : Ctx) (i : Nat) (fld : Str) (C a dd : Addr) (v : PyData) (es : List Expr) (ds : List PyData) : Prop := ∃ t : TA, (∀ X oe pn, S.has X → L2N.Zn (.ref C) (some dd) oe → (∃ vs, oe.data = .fields vs) → PA (X.suite a ((a, oe) :: pn)) es t) ∧
  ∀ σ H Q, Hst i a dd fld v σ H → (∀ us, Rps H us ds → Q us H) → t σ H Q
theorem ht_not {b : Bool} (h : HTj S i fld C a dd v e b) : HTj S i fld C a dd v (.UnaryOp .Not e pos) (!b) := by
  obtain ⟨t, h1, h2⟩ := h
  exact ⟨tNot t, fun X oe pn hX hz hf => pt_not (h1 X oe pn hX hz hf), fun σ H Q hs q => h2 σ H _ hs q⟩
theorem ht_val {b : Bool} (h : HEj S i fld C a dd v e (.bool b)) (hp : plainT e = true) : HTj S i fld C a dd v e b := by
  obtain ⟨t, h1, h2⟩ := h
  refine ⟨fun σ H Q => t σ H fun x H' => ∃ k, TruV S.K x H' k ∧ Q k H', fun X oe pn hX hz hf => ?_, fun σ H Q hs q => h2 σ H _ hs fun u ru => ?_⟩
  · have := pt_truth (h1 X oe pn hX hz hf) (plainT_eq hp)
    rw [← hX.K]; exact this
  · cases ru
    exact ⟨b, rfl, q⟩
theorem hw_one {b : Bool} (h : HTj S i fld C a dd v e b) : HWj S i fld C a dd v (.BoolOp .Or [e] pos) b := by
  obtain ⟨t, h1, h2⟩ := h
  exact ⟨t, fun X oe pn hX hz hf => pw_or1 (h1 X oe pn hX hz hf), h2⟩
theorem hw_cons {b c : Bool} (h : HTj S i fld C a dd v e b) (r : HWj S i fld C a dd v (.BoolOp .Or (e2 :: es) pos) c) : HWj S i fld C a dd v (.BoolOp .Or (e :: e2 :: es) pos) (b || c) := by
  obtain ⟨t, h1, h2⟩ := h
  obtain ⟨u, r1, r2⟩ := r
  refine ⟨tOr t u, fun X oe pn hX hz hf => pw_or (h1 X oe pn hX hz hf) (r1 X oe pn hX hz hf), fun σ H Q hs q => h2 σ H _ hs ?_⟩
  cases b with
  | true => exact iteT q
  | false => exact iteF (r2 σ H _ hs q)
theorem hw_t {b : Bool} (h : HWj S i fld C a dd v e b) : HTj S i fld C a dd v e b := by
  obtain ⟨t, h1, h2⟩ := h
  exact ⟨t, fun X oe pn hX hz hf => (h1 X oe pn hX hz hf).pt, h2⟩
theorem he_is {T : Str} {CT : Addr} {b : Bool} (nm : NameOk S i n) (E : ExcC S.K C) (nb : BltName S "isinstance") (hg : S.scope.names.lookup T = some .globalImplicit) (hT : S.mg T = some (.ref CT)) (hd : (T == ("__debug__" : Str)) = false) (hk : PySem.W.kitOne S.K (.ref C) (.ref CT) = some b) :
    HEj S i fld C a dd v (.Call (.Name "isinstance" pos) [.Name n p1, .Name T p2] [] p3) (.bool b) := by
  refine ⟨tCB (rIsF S.K C a dd) (tCons (tVar i) (tCons (tC (.ref CT)) tNil)), fun X oe pn hX hz hf => ?_, fun σ H Q hs q => ?_⟩
  · have c := call_isF (X := X) (a := a) (pn := pn) (by rw [hX.K]; exact E) hz.zc hf
    rw [hX.K] at c
    refine pe_callB c (nb.g hX).1 (nb.g hX).2 (by decide +kernel) (pa_cons ?_ (pa_cons ?_ pa_nil (star_cons rfl)) (star_cons rfl)) (by decide +kernel) (by decide +kernel) (star_cons rfl) rfl
    · exact pe_var (X := X.suite a ((a, oe) :: pn)) (by show X.N[i]? = some n; rw [hX.N]; exact nm.at_) (by show Vis X.env.scope n; rw [hX.scope]; exact nm.vis) nm.nd nm.nc
    · exact pe_glob (X := X.suite a ((a, oe) :: pn)) (v := .ref CT) (by show X.env.scope.names.lookup T = _; rw [hX.scope]; exact hg) (by show X.mg T = _; rw [hX.mg]; exact hT) rfl hd
  · obtain ⟨w, hw, _⟩ := hs.fl
    exact ⟨.ref a, hs.sl, .ref CT, .ref CT, b, _, rfl, fun u ru => ru, hk, hw, q _ (.bl b)⟩
theorem he_fld (nm : NameOk S i n) (f : XfC S.K C) (nf : PySem.W.findIn S.K (.ref C) fld = some none) : HEj S i fld C a dd v (.Attribute (.Name n p1) fld pos) v := by
  refine ⟨tXf a (.ref C) (some dd) C fld (tVar i), fun X oe pn hX hz hf => ?_, fun σ H Q hs q => ?_⟩
  · exact pe_xf (by rw [hX.K]; exact f) (by rw [hX.K]; exact nf) hz.zc hf (pe_var (X := X.suite a ((a, oe) :: pn)) (by show X.N[i]? = some n; rw [hX.N]; exact nm.at_) (by show Vis X.env.scope n; rw [hX.scope]; exact nm.vis) nm.nd nm.nc) rfl
  · obtain ⟨w, hw, rw'⟩ := hs.fl
    exact ⟨.ref a, hs.sl, rfl, rfl, dd, _, w, rfl, hw, by simp [List.lookup], q w rw'⟩
theorem he_int {j : Int} {k : Nat} : HEj S i fld C a dd v (.Constant (.int j) k pos) (.int j) := ⟨_, fun X oe pn hX hz hf => pe_int, fun σ H Q hs q => q _ (.int j)⟩
theorem he_str {z : Str} {k : Nat} (hg : StrG z) : HEj S i fld C a dd v (.Constant (.str z) k pos) (.str z) := ⟨_, fun X oe pn hX hz hf => pe_str, fun σ H Q hs q => q _ (.str z hg)⟩
theorem ha_nil : HAj S i fld C a dd v [] [] := ⟨tNil, fun X oe pn hX hz hf => pa_nil, fun σ H Q hs q => q _ .nil⟩
theorem ha_cons {d : PyData} {ds : List PyData} (h : HEj S i fld C a dd v e d) (r : HAj S i fld C a dd v es ds) (hn : notStar e = true) : HAj S i fld C a dd v (e :: es) (d :: ds) := by
  obtain ⟨t, h1, h2⟩ := h
  obtain ⟨u, r1, r2⟩ := r
  exact ⟨tCons t u, fun X oe pn hX hz hf => pa_cons (h1 X oe pn hX hz hf) (r1 X oe pn hX hz hf) (star_cons hn), fun σ H Q hs q => h2 σ H _ hs fun x rx => r2 σ H _ hs fun xs rxs => q _ (.cons rx rxs)⟩
/-- a def of one parameter that may be called in a suite, and tells of plain values without a trace -/
def spHot (ans : PyData → Option Bool) : Sp := fun vs H Q _ => ∃ (u : V) (d : PyData) (b : Bool), vs = [u] ∧ Rp H u d ∧ closedD d = true ∧ ans d = some b ∧ Q (.bl b) H
def HotF (S : Ctx) (x : Str) (ans : PyData → Option Bool) : Prop := ∃ (f : Addr) (fd : FuncData) (ps : List Str) (k : Nat), S.mg x = some (.ref f) ∧ PySem.W.keepIn S.K (.ref f) = true ∧ Binds S.K fd ps [] ∧ k ≤ S.k ∧ L2H.FnH S.P S.w S.K S.mg S.base CX0 k f fd ps (spHot ans)
theorem he_hot {x : Str} {ans : PyData → Option Bool} {b : Bool} {d : PyData} (hf : HotF S x ans) (hg : S.scope.names.lookup x = some .globalImplicit) (hd : (x == ("__debug__" : Str)) = false) (h : HEj S i fld C a dd v e d) (hc : closedD d = true) (ha : ans d = some b) (hn : notStar e = true) :
    HEj S i fld C a dd v (.Call (.Name x p1) [e] [] pos) (.bool b) := by
  obtain ⟨f, fd, ps, k, m1, m2, m3, m4, F⟩ := hf
  obtain ⟨t, h1, h2⟩ := h
  refine ⟨tCallS (spHot ans) (fun _ _ _ _ => False) (tCons t tNil), fun X oe pn hX hz hfl => ?_, fun σ H Q hs q => h2 σ H _ hs fun u ru => ⟨u, d, b, rfl, ru, hc, ha, q _ (.bl b)⟩⟩
  have hot : L2H.HotC (X.suite a ((a, oe) :: pn)) := by
    obtain ⟨vs, hv⟩ := hfl
    exact ⟨(a, oe), ⟨rfl, vs, hv, hz.2.2 vs hv⟩, List.mem_cons_self⟩
  have room := hX.room.mono m4
  exact L2H.pe_callH (X := X.suite a ((a, oe) :: pn)) (CX := CX0) (by show L2H.FnH X.prog X.w X.K X.mg X.base CX0 k f fd ps (spHot ans); rw [hX.prog, hX.w, hX.K, hX.mg, hX.base]; exact F) ⟨room.dp, room.un⟩ hot (by show X.env.scope.names.lookup x = _; rw [hX.scope]; exact hg) (by show X.mg x = _; rw [hX.mg]; exact m1)
    (by show PySem.W.keepIn X.K _ = true; rw [hX.K]; exact m2) (by show Binds X.K fd ps []; rw [hX.K]; exact m3) (fun σ pins H s e s' I c => c.elim) (pa_cons (h1 X oe pn hX hz hfl) pa_nil (star_cons hn)) hd (star_cons hn) rfl
end
end Vi

set_option Elab.async false
set_option linter.all false
set_option maxRecDepth 100000
set_option maxHeartbeats 4000000
namespace Vi
open PySem L2
theorem SI.goneV {K : PySem.W.Frag} {Z H : Hp} {σ : St} {env : Env} {F : Fp} (I : SI K Z H σ env F) (i : Nat) (u : V) : SI K Z H (σ.set i (some u)) (env.set i none) (setF F i []) := by
  have J := I.gone i
  refine ⟨by rw [List.length_set]; exact J.len, J.sub, fun j x e => ?_, J.non, J.dis⟩
  obtain ⟨v, ev, r⟩ := J.rep j x e
  have hj : j ≠ i := fun z => by
    subst z
    by_cases hl : j < env.length
    · rw [List.getElem?_set_self hl] at e; cases e
    · rw [List.getElem?_eq_none (by rw [List.length_set]; omega)] at e; cases e
  exact ⟨v, by rw [List.getElem?_set_ne (Ne.symm hj)]; exact ev, r⟩
theorem rps_closed {H H' : Hp} : ∀ {us : List V} {ds : List PyData}, Rps H us ds → ds.all closedD = true → Rps H' us ds
  | _, _, .nil, _ => .nil
  | _, _, .cons r t, h => by
    rw [List.all_cons, Bool.and_eq_true] at h
    exact .cons (rp_closed r h.1) (rps_closed t h.2)
section
variable {S : Ctx} {own : List Nat} {i : Nat} {n fld : Str} {C a dd : Addr} {v : PyData} {e : Expr} {es : List Expr} {pos pos2 : Pos}
/-- the suite's statements end in a return of a tuple of plain values ds -/
def HSj (S : Ctx) (i : Nat) (fld : Str) (C a dd : Addr) (v : PyData) (sts : List Stmt) (ds : List PyData) : Prop := ∃ t : TS, (∀ X oe pn, S.has X → L2N.Zn (.ref C) (some dd) oe → (∃ vs, oe.data = .fields vs) → PSs (X.suite a ((a, oe) :: pn)) sts t) ∧
  ∀ σ H (D : Ends), Hst i a dd fld v σ H → (∀ p us, H p = none → Rps H us ds → us.length ≤ sizeLine → D.rt (.ref p) (L2.upd H p (.tup us))) → t D σ H
theorem hs_ret {ds : List PyData} {k0 : Nat} (h : HAj S i fld C a dd v es ds) (hl : ds.length ≤ sizeLine) : HSj S i fld C a dd v [.Return (some (.Tuple es k0 pos)) pos2] ds := by
  obtain ⟨t, h1, h2⟩ := h
  refine ⟨tRet (tTup t), fun X oe pn hX hz hf => pss_one (ps_ret (pe_tup (h1 X oe pn hX hz hf))), fun σ H D hs q => h2 σ H _ hs fun us ru => ⟨by rw [ru.length]; exact hl, fun p hp => q p us hp ru (by rw [ru.length]; exact hl)⟩⟩
theorem hs_if {sa sb : List Stmt} {da db : List PyData} {b : Bool} (h : HTj S i fld C a dd v e b) (ha : HSj S i fld C a dd v sa da) (hb : HSj S i fld C a dd v sb db) : HSj S i fld C a dd v (.If e sa [] pos :: sb) (if b = true then da else db) := by
  obtain ⟨t, h1, h2⟩ := h
  obtain ⟨ta, a1, a2⟩ := ha
  obtain ⟨tb, b1, b2⟩ := hb
  refine ⟨tSeq (tIfS t ta tNext) tb, fun X oe pn hX hz hf => pss_cons (ps_if (h1 X oe pn hX hz hf) (a1 X oe pn hX hz hf) pss_nil) (b1 X oe pn hX hz hf), fun σ H D hs q => h2 σ H _ hs ?_⟩
  cases b with
  | true => exact iteT (a2 σ H _ hs fun p us hp ru hl => q p us hp ru hl)
  | false => exact iteF (b2 σ H _ hs fun p us hp ru hl => q p us hp ru hl)
def tryM (own : List Nat) (i c : Nat) (m : MS) (hv : PyData → Option (List PyData)) : MS := fun env => match m env with
  | .ex xx e' => if xx.c = c ∧ own.contains i = false ∧ i < e'.length then (match xx.a with
    | some v => (match hv v with
      | some ds => if ds.all closedD = true then .ret (.fz (.tuple ds)) (e'.set i none) else .bad
      | none => .bad)
    | none => .bad) else .bad
  | r => r
theorem ss_try {body suite : List Stmt} {b0 : Stmt} {m : MS} {c : Nat} {x : Str} {Cx0 : Addr} {np pos' : Pos} {hv : PyData → Option (List PyData)} (hbd : ∀ W : WX, SSs { S with W := W } own body m) (nm : S.N[i]? = some n) (loc : S.scope.names.lookup n = some .local) (nd : S.N.Nodup) (top : S.top = true)
    (hg : S.scope.names.lookup x = some .globalImplicit) (hd : (x == ("__debug__" : Str)) = false) (hm : S.mg x = some (.ref Cx0)) (hx : PySem.W.exmOne S.K (.ref C) (.ref Cx0) = some true)
    (hexr : ∀ xx cls d H, S.exr xx cls d H → xx.c = c → ∃ v dd w, xx.a = some v ∧ cls = .ref C ∧ d = some dd ∧ H dd = some (.xd [(fld, w)]) ∧ Rp H w v)
    (hh : ∀ a dd v ds, hv v = some ds → HSj S i fld C a dd v (b0 :: suite) ds) :
    SS S own (.Try body [.ExceptHandler (some (.Name x np)) (some n) (b0 :: suite) pos'] [] [] pos) (tryM own i c m hv) := fun σ env Z H F I D w => by
  have hts : ∃ ts : Addr → Value → Option Addr → TS, ts = fun a cls d D σ H => ∃ t : TS, (∀ X oe pn, S.has X → L2N.Zn cls d oe → (∃ vs, oe.data = .fields vs) → PSs (X.suite a ((a, oe) :: pn)) (b0 :: suite) t) ∧ t D σ H := ⟨_, rfl⟩
  obtain ⟨ts, hts⟩ := hts
  refine ⟨fun D σ H => wSs { S with W := wAs S.K (.ref Cx0) i ts (fun _ _ _ _ => False) D } body D σ H, fun X hX => ?_, ?_⟩
  · have := L2N.ps_try_as (X := X) (x := x) (n := n) (c := .ref Cx0) (i := i) (body := body) (suite := suite) (b₀ := b0) (np := np) (pos := pos) (pos' := pos') (tb := fun W => wSs { S with W := W } body) (ts := ts) (Wout := fun _ _ _ _ => False) (hX.top top).1 (hX.top top).2 (by rw [hX.N]; exact nd) (by rw [hX.N]; exact nm)
      (by show X.env.scope.names.lookup n = some .local; rw [hX.scope]; exact loc) ⟨by show X.env.scope.names.lookup x = _; rw [hX.scope]; exact hg, hd, .inl (by rw [hX.mg]; exact hm)⟩ takesN
      (fun W pn xe tk po => pss_w (S := { S with W := W }) ⟨hX.prog, hX.w, hX.K, hX.mg, hX.base, hX.N, hX.scope, hX.fn, hX.calm, hX.room, po, tk, hX.top⟩)
      (fun a oe cls d pn hz hf => by
        rw [hts]
        exact ⟨fun pins s σ H D I ⟨t, p, q⟩ => (p X oe pn hX hz hf).run pins s σ H D I q⟩)
    rw [hX.K] at this
    exact this
  · obtain ⟨mm, hmm⟩ : ∃ mm, mm = tryM own i c m hv env := ⟨_, rfl⟩
    rw [← hmm] at w
    unfold tryM at hmm
    refine hbd (wAs S.K (.ref Cx0) i ts (fun _ _ _ _ => False) D) σ env Z H F I D ⟨fun env' q σ' Z' H' F' I' s' kp => ?_, fun r env' q v σ' Z' H' F' G I' o' s' kp => ?_, fun xx env' q σ' Z' H' F' cls d I' s' kp hxx => ?_, fun q => ?_⟩
    · rw [q] at hmm; exact w.nx _ hmm σ' Z' H' F' I' s' kp
    · rw [q] at hmm; exact w.rt _ _ hmm v σ' Z' H' F' G I' o' s' kp
    · rw [q] at hmm
      have hmm : mm = (if xx.c = c ∧ own.contains i = false ∧ i < env'.length then (match xx.a with
        | some v => (match hv v with | some ds => if ds.all closedD = true then .ret (.fz (.tuple ds)) (env'.set i none) else .bad | none => .bad)
        | none => .bad) else .bad) := hmm
      split at hmm
      · rename_i hc
        obtain ⟨v, dd, u, e1, e2, e3, e4, e5⟩ := hexr xx cls d H' hxx hc.1
        subst e2 e3
        rw [e1] at hmm
        have hmm : mm = (match hv v with | some ds => if ds.all closedD = true then .ret (.fz (.tuple ds)) (env'.set i none) else .bad | none => .bad) := hmm
        cases q2 : hv v with
        | none => rw [q2] at hmm; exact absurd hmm w.nb
        | some ds =>
          rw [q2] at hmm
          have hmm : mm = (if ds.all closedD = true then .ret (.fz (.tuple ds)) (env'.set i none) else .bad) := hmm
          split at hmm
          · rename_i hcl
            refine ⟨true, hx, fun _ a ha => ?_, fun z => by cases z⟩
            obtain ⟨t, h1, h2⟩ := hh a dd v ds q2
            rw [hts]
            refine ⟨t, h1, h2 _ _ _ ⟨by rw [List.getElem?_set_self (by rw [I'.len]; exact hc.2.2)], u, e4, e5⟩ fun p us hp ru hl => ?_⟩
            have J := I'.goneV i (.ref a)
            obtain ⟨J', ro, sj⟩ := J.newT hp (rps_closed ru hcl) hl
            exact w.rt _ _ hmm _ _ _ _ _ [] J' (.fz ro) ((s'.trans0 set_stp).trans0 sj) (kp.trans (kp_set hc.2.1))
          · exact absurd hmm w.nb
      · exact absurd hmm w.nb
    · rw [q] at hmm; exact w.nb hmm
end
end Vi

set_option Elab.async false
set_option linter.all false
set_option maxRecDepth 100000
set_option maxHeartbeats 4000000
namespace Vi
open PySem L2
/-! ### a suite's text, as far as it is read here -/
inductive HX where
  | is (T : Str) (b : Bool) | not (h : HX) | hot (x : Str)
inductive HP where
  | int (i : Int) | str (x : Str) | f
inductive Hs where
  | ret (ps : List HP) | iff (ts : List HX) (r : List HP) (rest : Hs)
/-- what a module tells of a caught class: its number, the clause's name, the field, what isinstance says, the defs that may be called -/
structure HEnt where
  c : Nat
  x : Str
  fld : Str
  isf : List (Str × Bool)
  hot : List Str
  deriving DecidableEq
def wholeD : PyData → Option Bool
  | .int _ => some true
  | .none => some false
  | .bool _ => some false
  | .str _ => some false
  | _ => none
def hxV : HX → PyData → Option Bool
  | .is _ b, _ => some b
  | .not h, v => (hxV h v).map (!·)
  | .hot _, v => wholeD v
def hwV : List HX → PyData → Option Bool
  | [], _ => none
  | [h], v => hxV h v
  | h :: r, v => match hxV h v, hwV r v with
    | some b, some c => some (b || c)
    | _, _ => none
def hpV : List HP → PyData → List PyData
  | [], _ => []
  | .int i :: r, v => .int i :: hpV r v
  | .str x :: r, v => .str x :: hpV r v
  | .f :: r, v => v :: hpV r v
def hsV : Hs → PyData → Option (List PyData)
  | .ret ps, v => if closedD v = true ∧ ps.length ≤ 100 then some (hpV ps v) else none
  | .iff ts r rest, v => match hwV ts v, hsV rest v with
    | some b, some d => if closedD v = true ∧ r.length ≤ 100 then some (if b = true then hpV r v else d) else none
    | _, _ => none
def glOk (sc : Scope) (x : Str) : Bool := (match sc.names.lookup x with | some .globalImplicit => true | _ => false) && !(x == ("__debug__" : Str))
def mHX (E : HEnt) (sc : Scope) (n : Str) : HX → Expr → Bool
  | .is T b, .Call (.Name f _) [.Name m _, .Name t _] [] _ => f == ("isinstance" : Str) && m == n && t == T && E.isf.contains (T, b) && glOk sc T
  | .not h, .UnaryOp .Not e _ => mHX E sc n h e
  | .hot x, .Call (.Name f _) [.Attribute (.Name m _) a _] [] _ => f == x && m == n && a == E.fld && E.hot.contains x && glOk sc x
  | _, _ => false
def mHW (E : HEnt) (sc : Scope) (n : Str) : List HX → List Expr → Bool
  | [h], [e] => mHX E sc n h e
  | h :: h2 :: r, e :: e2 :: s => mHX E sc n h e && mHW E sc n (h2 :: r) (e2 :: s)
  | _, _ => false
def mHP (E : HEnt) (n : Str) : List HP → List Expr → Bool
  | [], [] => true
  | .int i :: r, .Constant (.int j) _ _ :: s => i == j && mHP E n r s
  | .str x :: r, .Constant (.str y) _ _ :: s => x == y && decide (x.length ≤ 16777216) && x.cps.all (· < 0x110000) && mHP E n r s
  | .f :: r, .Attribute (.Name m _) a _ :: s => m == n && a == E.fld && mHP E n r s
  | _, _ => false
def mHs (E : HEnt) (sc : Scope) (n : Str) : Hs → List Stmt → Bool
  | .ret ps, [.Return (some (.Tuple es _ _)) _] => mHP E n ps es
  | .iff ts r rest, .If (.BoolOp .Or tests _) [.Return (some (.Tuple es _ _)) _] [] _ :: more => mHW E sc n ts tests && mHP E n r es && mHs E sc n rest more
  | _, _ => false
/-- what must hold of such a class -/
structure HOk (S : Ctx) (E : HEnt) (C Cx0 : Addr) : Prop where
  mg : S.mg E.x = some (.ref Cx0)
  exm : PySem.W.exmOne S.K (.ref C) (.ref Cx0) = some true
  xf : XfC S.K C
  nf : PySem.W.findIn S.K (.ref C) E.fld = some none
  ec : ExcC S.K C
  isb : S.mg ("isinstance" : Str) = none
  is : ∀ T b, E.isf.contains (T, b) = true → ∃ CT, S.mg T = some (.ref CT) ∧ PySem.W.kitOne S.K (.ref C) (.ref CT) = some b
  hot : ∀ x, E.hot.contains x = true → HotF S x wholeD
  back : ∀ xx cls d H, S.exr xx cls d H → xx.c = E.c → ∃ v dd w, xx.a = some v ∧ cls = .ref C ∧ d = some dd ∧ H dd = some (.xd [(E.fld, w)]) ∧ Rp H w v
section
variable {S : Ctx} {E : HEnt} {C Cx0 : Addr} {i : Nat} {n : Str} {a dd : Addr} {v : PyData}
theorem glOk_ok {x : Str} (h : glOk S.scope x = true) : S.scope.names.lookup x = some .globalImplicit ∧ (x == ("__debug__" : Str)) = false := by
  unfold glOk at h
  rw [Bool.and_eq_true] at h
  refine ⟨?_, by simpa using h.2⟩
  have h1 := h.1
  split at h1
  · assumption
  · cases h1
theorem hx_ok (O : HOk S E C Cx0) (nm : NameOk S i n) (ib : S.scope.names.lookup ("isinstance" : Str) = some .globalImplicit) (hc : closedD v = true) : ∀ {h : HX} {e : Expr} {b : Bool}, mHX E S.scope n h e = true → hxV h v = some b → HTj S i E.fld C a dd v e b
  | .is T b', e, b, hm, hv => by
    unfold mHX at hm
    split at hm
    · rename_i q; cases q
      simp only [Bool.and_eq_true, beq_iff_eq] at hm
      obtain ⟨⟨⟨⟨rfl, rfl⟩, rfl⟩, h4⟩, h5⟩ := hm
      cases hv
      obtain ⟨CT, t1, t2⟩ := O.is _ _ h4
      obtain ⟨g1, g2⟩ := glOk_ok h5
      exact ht_val (he_is nm O.ec ⟨ib, O.isb⟩ g1 t1 g2 t2) rfl
    · rename_i q; cases q
    · rename_i q; cases q
    · cases hm
  | .not h, e, b, hm, hv => by
    unfold mHX at hm
    split at hm
    · rename_i q; cases q
    · rename_i q; cases q
      have hv : (hxV h v).map (!·) = some b := hv
      cases q : hxV h v with
      | none => rw [q] at hv; cases hv
      | some b' => rw [q] at hv; cases hv; exact ht_not (hx_ok O nm ib hc hm q)
    · rename_i q; cases q
    · cases hm
  | .hot x, e, b, hm, hv => by
    unfold mHX at hm
    split at hm
    · rename_i q; cases q
    · rename_i q; cases q
    · rename_i q; cases q
      simp only [Bool.and_eq_true, beq_iff_eq] at hm
      obtain ⟨⟨⟨⟨rfl, rfl⟩, rfl⟩, h4⟩, h5⟩ := hm
      obtain ⟨g1, g2⟩ := glOk_ok h5
      exact ht_val (he_hot (O.hot _ h4) g1 g2 (he_fld nm O.xf O.nf) hc hv rfl) rfl
    · cases hm
theorem hw_ok (O : HOk S E C Cx0) (nm : NameOk S i n) (ib : S.scope.names.lookup ("isinstance" : Str) = some .globalImplicit) (hc : closedD v = true) {pos : Pos} : ∀ {ts : List HX} {es : List Expr} {b : Bool}, mHW E S.scope n ts es = true → hwV ts v = some b → HWj S i E.fld C a dd v (.BoolOp .Or es pos) b
  | [], es, b, hm, hv => by cases hv
  | [h], [], b, hm, hv => by cases hm
  | [h], [e], b, hm, hv => hw_one (hx_ok O nm ib hc hm hv)
  | [h], _ :: _ :: _, b, hm, hv => by cases hm
  | h :: h2 :: r, [], b, hm, hv => by cases hm
  | h :: h2 :: r, [_], b, hm, hv => by cases hm
  | h :: h2 :: r, e :: e2 :: s, b, hm, hv => by
    have hm : (mHX E S.scope n h e && mHW E S.scope n (h2 :: r) (e2 :: s)) = true := hm
    rw [Bool.and_eq_true] at hm
    have hv : (match hxV h v, hwV (h2 :: r) v with | some b, some c => some (b || c) | _, _ => none) = some b := hv
    cases q1 : hxV h v with
    | none => rw [q1] at hv; cases hv
    | some b1 =>
      cases q2 : hwV (h2 :: r) v with
      | none => rw [q1, q2] at hv; cases hv
      | some b2 =>
        rw [q1, q2] at hv
        cases hv
        exact hw_cons (hx_ok O nm ib hc hm.1 q1) (hw_ok O nm ib hc hm.2 q2)
theorem hp_ok (O : HOk S E C Cx0) (nm : NameOk S i n) : ∀ {ps : List HP} {es : List Expr}, mHP E n ps es = true → HAj S i E.fld C a dd v es (hpV ps v)
  | [], [], _ => ha_nil
  | [], _ :: _, h => by cases h
  | .int j :: r, [], h => by simp [mHP] at h
  | .str z :: r, [], h => by simp [mHP] at h
  | .f :: r, [], h => by simp [mHP] at h
  | .int j :: r, e :: s, h => by
    cases e with
    | Constant c k p =>
      cases c with
      | int j' =>
        have g : (j == j' && mHP E n r s) = true := by simpa only [mHP] using h
        simp only [Bool.and_eq_true, beq_iff_eq] at g
        obtain ⟨rfl, g⟩ := g
        exact ha_cons he_int (hp_ok O nm g) rfl
      | _ => simp [mHP] at h
    | _ => simp [mHP] at h
  | .str z :: r, e :: s, h => by
    cases e with
    | Constant c k p =>
      cases c with
      | str z' =>
        have g : (z == z' && decide (z.length ≤ 16777216) && z.cps.all (· < 0x110000) && mHP E n r s) = true := by simpa only [mHP] using h
        simp only [Bool.and_eq_true, beq_iff_eq] at g
        obtain ⟨⟨⟨rfl, h1⟩, h2⟩, g⟩ := g
        exact ha_cons (he_str ⟨by rw [sizeLine_eq]; exact of_decide_eq_true h1, h2⟩) (hp_ok O nm g) rfl
      | _ => simp [mHP] at h
    | _ => simp [mHP] at h
  | .f :: r, e :: s, h => by
    cases e with
    | Attribute o f p =>
      cases o with
      | Name m p2 =>
        have g : (m == n && f == E.fld && mHP E n r s) = true := by simpa only [mHP] using h
        simp only [Bool.and_eq_true, beq_iff_eq] at g
        obtain ⟨⟨e1, e2⟩, g⟩ := g
        rw [e1, e2]
        exact ha_cons (he_fld nm O.xf O.nf) (hp_ok O nm g) rfl
      | _ => simp [mHP] at h
    | _ => simp [mHP] at h
theorem hpV_len : ∀ (ps : List HP) (v : PyData), (hpV ps v).length = ps.length
  | [], _ => rfl
  | .int _ :: r, v => by simp [hpV, hpV_len r v]
  | .str _ :: r, v => by simp [hpV, hpV_len r v]
  | .f :: r, v => by simp [hpV, hpV_len r v]
theorem hs_ok (O : HOk S E C Cx0) (nm : NameOk S i n) (ib : S.scope.names.lookup ("isinstance" : Str) = some .globalImplicit ∨ True) (ib2 : S.scope.names.lookup ("isinstance" : Str) = some .globalImplicit) : ∀ {h : Hs} {sts : List Stmt} {ds : List PyData}, mHs E S.scope n h sts = true → hsV h v = some ds → HSj S i E.fld C a dd v sts ds
  | .ret ps, sts, ds, hm, hv => by
    unfold mHs at hm
    split at hm
    · rename_i q; cases q
      unfold hsV at hv
      split at hv
      · rename_i hc; cases hv
        exact hs_ret (hp_ok O nm hm) (by rw [hpV_len]; exact Nat.le_trans hc.2 (by decide))
      · cases hv
    · rename_i q; cases q
    · cases hm
  | .iff ts r rest, sts, ds, hm, hv => by
    unfold mHs at hm
    split at hm
    · rename_i q; cases q
    · rename_i q; cases q
      simp only [Bool.and_eq_true] at hm
      have hv : (match hwV ts v, hsV rest v with | some b, some d => if closedD v = true ∧ r.length ≤ 100 then some (if b = true then hpV r v else d) else none | _, _ => none) = some ds := hv
      cases q1 : hwV ts v with
      | none => rw [q1] at hv; cases hv
      | some b =>
        cases q2 : hsV rest v with
        | none => rw [q1, q2] at hv; cases hv
        | some d =>
          rw [q1, q2] at hv
          have hv : (if closedD v = true ∧ r.length ≤ 100 then some (if b = true then hpV r v else d) else none) = some ds := hv
          split at hv
          · rename_i hc; cases hv
            exact hs_if (hw_t (hw_ok O nm ib2 hc.1 hm.1.1 q1)) (hs_ret (hp_ok O nm hm.1.2) (by rw [hpV_len]; exact Nat.le_trans hc.2 (by decide))) (hs_ok O nm ib ib2 hm.2 q2)
          · cases hv
    · cases hm
end
end Vi

set_option Elab.async false
set_option linter.all false
set_option maxRecDepth 100000
namespace Vi
open PySem L2

/-! ### tests read over a view -/
def bwT (vs ks : List Nat) (m : M Bool) : M Bool := fun env => if noOwn (killE ks (frzE vs env)) = true then (match m (killE ks (frzE vs env)) with
    | .ok r _ => .ok r env
    | .ex x _ => .ex x (frzE vs env)
    | .bad => .bad) else .bad
theorem sb_bw {S : Ctx} {e : Expr} {m : M Bool} (vs ks : List Nat) (h : SB S e m) : SB S e (bwT vs ks m) := .of fun σ env Z H F I Q mm hm k kx kb => by
  unfold bwT at hm
  split at hm
  · rename_i hno
    obtain ⟨Z1, F1, I1, s1⟩ := frzE_ok vs I
    obtain ⟨F2, I2⟩ := killE_ok ks I1
    have no := I2.noOwn hno
    refine h σ _ Z1 H F2 I2 Q (fun r env' q Z' H' F'' I' s => ?_) (fun x env' q Z' H' F'' cls d I' s hx => ?_) fun q => kb (by rw [hm, q])
    · rw [q] at hm
      obtain ⟨⟨A1, A2⟩, _⟩ := view_back I I1 s1 no s I'.sub
      exact k _ _ hm Z H' F A1 A2
    · rw [q] at hm
      obtain ⟨_, B1, B2⟩ := view_back I I1 s1 no s I'.sub
      exact kx x _ hm Z' H' F1 cls d B1 B2 hx
  · exact absurd hm kb

/-! ### the fragment's syntax -/
inductive Tg where
  | nm (i : Nat)
  | tp (is : List Nat)
mutual
inductive Ex' where
  | var (i : Nat) | mv (i : Nat) | bw (vs ks : List Nat) (e : Ex')
  | int (i : Int) | bl (b : Bool) | non | str (x : Str) | gi (i : Int) | gs (x : Str)
  | bin (op : Operator) (a b : Ex') | neg (a : Ex') | cmp (op : CmpOp) (a b : Ex') | chain (o1 o2 : CmpOp) (a b c : Ex')
  | one (a : Ex') | and (a b : Ex') | or (a b : Ex') | not (a : Ex') | ite (c a b : Ex')
  | tup (es : Exs) | lst (es : Exs) | ix (a b : Ex') | slc (a : Ex') (lo hi : Opt)
  | call (f : Nat) (as : Args) | blt (b : Bf) (es : Exs) | isi (a : Ex') (t : Ty) | lsc (i : Nat)
  | lc (elt : Ex') (tg : Tg) (it : Itr') (c : Opt) (vs : List Nat)
  | app (i : Nat) (e : Ex') | ext (i : Nat) (e : Ex') | popAt (i : Nat) (e : Ex') | pop (i : Nat)
  | mt (m : Mf) (o e : Ex') | appN (j n : Nat) (d : PyData) | mvix (j n : Nat) | rev (a : Ex') | repC (r : Str)
inductive Exs where
  | nil | cons (e : Ex') (es : Exs)
inductive Args where
  | nil | e (a : Ex') (r : Args) | o (i : Nat) (r : Args)
inductive Opt where
  | no | yes (e : Ex')
inductive Itr' where
  | rg (i : Nat) | e (a : Ex') | r1 (a : Ex') | r2 (a b : Ex') | en (a : Ex') | rv (a : Ex') | zp (a b : Ex')
end
mutual
inductive St' where
  | pass | asg (i : Nat) (e : Ex') | expr (e : Ex') | ret (e : Ex') | retN | iff (c : Ex') (a b : Sts) | forr (tg : Tg) (it : Itr') (b : Sts) | whl (n : Nat) (c : Ex') (b : Sts)
  | set (j : Nat) (i e : Ex') | augS (j : Nat) (op : Operator) (i e : Ex') | aug (i : Nat) (op : Operator) (e : Ex')
  | asgT (is : List Nat) (e : Ex') | bws (vs ks keep : List Nat) (s : St')
  | rais (c : Nat) (x fld : Str) (e : Ex') | tryx (b : Sts) (i : Nat) (E : HEnt) (h : Hs)
inductive Sts where
  | nil | cons (s : St') (r : Sts)
end

/-! ### its meaning -/
abbrev Rho := Nat → Den
def bdsN : List Nat → List PyData → Env → Option Env
  | [] => bdNil
  | i :: is => bdCons (bdN i) (bdsN is)
def bdG : Tg → PyData → Env → Option Env
  | .nm i => bdN i
  | .tp is => bdT is.length (bdsN is)
def Tg.js : Tg → List Nat
  | .nm i => [i]
  | .tp is => is
mutual
def ev (ρ : Rho) : Ex' → M OV
  | .var i => rdVar i
  | .mv i => mvVar i
  | .bw vs ks e => bwM vs ks (ev ρ e)
  | .int i => fun env => .ok (.fz (.int i)) env
  | .bl b => fun env => .ok (.fz (.bool b)) env
  | .non => fun env => .ok (.fz .none) env
  | .str x => fun env => .ok (.fz (.str x)) env
  | .gi i => fun env => .ok (.fz (.int i)) env
  | .gs x => fun env => .ok (.fz (.str x)) env
  | .bin op a b => bin2 (fun env => (ev ρ a env).d) (fun env => (ev ρ b env).d) (binD op)
  | .neg a => fun env => ((ev ρ a env).d).bind fun d e => Rs.o (negD d) e
  | .cmp op a b => fun env => (cmp2 (fun env => (ev ρ a env).d) (fun env => (ev ρ b env).d) (cmpD op) env).bind fun r e => .ok (.fz (.bool r)) e
  | .chain o1 o2 a b c => fun env => (chain2 (fun env => (ev ρ a env).d) (fun env => (ev ρ b env).d) (fun env => (ev ρ c env).d) (cmpD o1) (cmpD o2) env).bind fun r e => .ok (.fz (.bool r)) e
  | .one a => fun env => ((ev ρ a env).d).bind fun d e => .ok (.fz d) e
  | .and a b => fun env => (andV (fun env => (ev ρ a env).d) (fun env => (ev ρ b env).d) env).bind fun d e => .ok (.fz d) e
  | .or a b => fun env => (orV (fun env => (ev ρ a env).d) (fun env => (ev ρ b env).d) env).bind fun d e => .ok (.fz d) e
  | .not a => fun env => (notV (fun env => (ev ρ a env).d) env).bind fun d e => .ok (.fz d) e
  | .ite c a b => iteV (evT ρ c) (ev ρ a) (ev ρ b)
  | .tup es => fun env => (tupM (evs ρ es) env).bind fun d e => .ok (.fz d) e
  | .lst es => lstM (evO ρ es)
  | .ix a b => fun env => (ix2 (fun env => (ev ρ a env).d) (fun env => (ev ρ b env).d) env).bind fun d e => .ok (.fz d) e
  | .slc a lo hi => slc3 (fun env => (ev ρ a env).d) (evP ρ lo) (evP ρ hi)
  | .call f as => callD (evA ρ as) (ρ f)
  | .blt b es => callM (evs ρ es) (bfD b)
  | .isi a t => fun env => (isiM (fun env => (ev ρ a env).d) t env).bind fun d e => .ok (.fz d) e
  | .lsc i => lscM i
  | .lc elt tg it c vs => compM (evI ρ it) (bdG tg) (evC ρ c) (ev ρ elt) vs
  | .app i e => appM i (ev ρ e)
  | .ext i e => extM i (fun env => (ev ρ e env).d)
  | .popAt i e => popAtM i (fun env => (ev ρ e env).d)
  | .pop i => popM i
  | .mt m o e => fun env => (mtM m (fun env => (ev ρ o env).d) (fun env => (ev ρ e env).d) env).bind fun d e => .ok (.fz d) e
  | .appN j n d => appN j n d
  | .mvix j n => mvixM j n
  | .rev a => fun env => ((ev ρ a env).d).bind fun d e => Rs.o (revD d) e
  | .repC r => fun env => .ok (.fz (.str r)) env
def evT (ρ : Rho) : Ex' → M Bool
  | .bw vs ks e => bwT vs ks (evT ρ e)
  | .cmp op a b => cmp2 (fun env => (ev ρ a env).d) (fun env => (ev ρ b env).d) (cmpD op)
  | .chain o1 o2 a b c => chain2 (fun env => (ev ρ a env).d) (fun env => (ev ρ b env).d) (fun env => (ev ρ c env).d) (cmpD o1) (cmpD o2)
  | .one a => evT ρ a
  | .and a b => andT (evT ρ a) (evT ρ b)
  | .or a b => orT (evT ρ a) (evT ρ b)
  | .not a => notT (evT ρ a)
  | .ite _ _ _ => fun _ => .bad
  | e => fun env => (ev ρ e env).d.tst
def evs (ρ : Rho) : Exs → M (List PyData)
  | .nil => fun env => .ok [] env
  | .cons e es => consL (fun env => (ev ρ e env).d) (evs ρ es)
def evO (ρ : Rho) : Exs → M (List OV)
  | .nil => fun env => .ok [] env
  | .cons e es => consO (ev ρ e) (evO ρ es)
def evA (ρ : Rho) : Args → List ArgM
  | .nil => []
  | .e a r => .inl (fun env => (ev ρ a env).d) :: evA ρ r
  | .o i r => .inr i :: evA ρ r
def evP (ρ : Rho) : Opt → MO
  | .no => fun env => .ok none env
  | .yes e => partM (fun env => (ev ρ e env).d)
def evC (ρ : Rho) : Opt → M Bool
  | .no => fun env => .ok true env
  | .yes e => evT ρ e
def evI (ρ : Rho) : Itr' → M (List PyData)
  | .rg i => rgItM i
  | .e a => itM (fun env => (ev ρ a env).d)
  | .r1 a => rngM (consL (fun env => (ev ρ a env).d) (fun env => .ok [] env))
  | .r2 a b => rngM (consL (fun env => (ev ρ a env).d) (consL (fun env => (ev ρ b env).d) (fun env => .ok [] env)))
  | .en a => enM (fun env => (ev ρ a env).d)
  | .rv a => rvM (fun env => (ev ρ a env).d)
  | .zp a b => zpM (fun env => (ev ρ a env).d) (fun env => (ev ρ b env).d)
end
mutual
def exS (ρ : Rho) (own : List Nat) : St' → MS
  | .pass => fun env => .nx env
  | .asg i e => asgM own i (ev ρ e)
  | .expr e => exprM (ev ρ e)
  | .ret e => retM (ev ρ e)
  | .retN => fun env => .ret (.fz .none) env
  | .iff c a b => ifM (evT ρ c) (exs ρ own a) (exs ρ own b)
  | .forr tg it b => forM' own tg.js (evI ρ it) (bdG tg) (exs ρ own b)
  | .whl n c b => whileL (evT ρ c) (exs ρ own b) n
  | .set j i e => setM j (fun env => (ev ρ i env).d) (fun env => (ev ρ e env).d)
  | .augS j op i e => augSM j op (fun env => (ev ρ i env).d) (fun env => (ev ρ e env).d)
  | .aug i op e => augM own i op (fun env => (ev ρ e env).d)
  | .asgT is e => asgTM own is (fun env => (ev ρ e env).d) (bdG (.tp is))
  | .bws vs ks keep s => if own.all keep.contains = true then bwSM vs ks keep (exS ρ keep s) else fun _ => .bad
  | .rais c _ _ e => raisM c (fun env => (ev ρ e env).d)
  | .tryx b i E h => tryM own i E.c (exs ρ own b) (hsV h)
def exs (ρ : Rho) (own : List Nat) : Sts → MS
  | .nil => fun env => .nx env
  | .cons s r => fun env => (exS ρ own s env).bind (exs ρ own r)
end

/-! ### it is the text -/
/-- names by slots; defs by numbers, with how many parameters; built-ins; the module's constants -/
structure Tab where
  N : List Str
  fs : List (Str × Nat)
  bl : List Str
  ci : List (Str × Int)
  cs : List (Str × Str)
  ex : List (Nat × Str × Str)
  hs : List HEnt
def dbg (x : Str) : Bool := x == ("__debug__" : Str)
def okVar (T : Tab) (sc : Scope) (i : Nat) (x : Str) : Bool := (T.N[i]? == some x) && (match sc.names.lookup x with | some .local => true | some .cell => true | some .free => true | _ => false) && !(dbg x) && !(x == ("__classdict__" : Str))
def okSto (T : Tab) (sc : Scope) (fn : Str → Bool) (i : Nat) (x : Str) : Bool := (T.N[i]? == some x) && (match sc.names.lookup x with | some .local => true | some .cell => fn x | _ => false)
def okGl (sc : Scope) (x : Str) : Bool := (match sc.names.lookup x with | some .globalImplicit => true | _ => false) && !(dbg x)
def okBl (T : Tab) (sc : Scope) (x : Str) : Bool := T.bl.contains x && (match sc.names.lookup x with | some .globalImplicit => true | _ => false)
def StrGB (x : Str) : Bool := decide (x.length ≤ 16777216) && x.cps.all (· < 0x110000)
def isRep (r : Str) : Expr → Bool
  | .Call (.Attribute (.Constant (.str a) _ _) m ap) [.Constant (.str b) _ _, .Constant (.str c) _ _] [] pos => m == ("replace" : Str) && !(b == c) && decide (a.length + (a.length + 1) * c.length ≤ 16777216) && ap.endLine == pos.line && Txt.replace a b c == r && StrGB r
  | _ => false
def isM1 : Expr → Bool
  | .Slice none none (some (.UnaryOp .USub (.Constant (.int k) _ _) _)) _ => k == (1 : Int)
  | _ => false
def notSl : Expr → Bool
  | .Slice _ _ _ _ => false
  | _ => true
def ownOf (T : Tab) (vs : List Nat) : List (Str × Nat) := vs.map fun i => (T.N.getD i Str.empty, i)
def blkFn (scope : Scope) : Str → Bool := fun x => scope.names.lookup x == some .cell
def mTs (T : Tab) (sc : Scope) (fn : Str → Bool) : List Nat → List Expr → Bool
  | [], [] => true
  | i :: is, .Name x _ :: r => okSto T sc fn i x && mTs T sc fn is r
  | _, _ => false
def mG (T : Tab) (sc : Scope) (fn : Str → Bool) : Tg → Expr → Bool
  | .nm i, .Name x _ => okSto T sc fn i x
  | .tp is, .Tuple es _ _ => mTs T sc fn is es
  | _, _ => false
def okBase : Expr → Bool
  | .Name _ _ => true
  | .Constant _ _ _ => true
  | _ => false
def cD : Const → PyData → Bool
  | .int i, .int j => i == j
  | .str x, .str y => x == y && StrGB y
  | _, _ => false
def mTg : Itr' → Expr → Bool
  | .en _, .Tuple _ _ _ => true
  | .en _, _ => false
  | .zp _ _, .Tuple _ _ _ => true
  | .zp _ _, _ => false
  | _, _ => true
mutual
def mE (T : Tab) (sc : Scope) : Ex' → Expr → Bool
  | .var i, .Name x _ => okVar T sc i x
  | .mv i, .Name x _ => okVar T sc i x
  | .bw _ _ e, p => mE T sc e p
  | .int i, .Constant (.int j) _ _ => i == j
  | .bl b, .Constant (.bool c) _ _ => b == c
  | .non, .Constant .none _ _ => true
  | .str x, .Constant (.str y) _ _ => x == y && StrGB y
  | .gi i, .Name x _ => okGl sc x && T.ci.contains (x, i)
  | .gs y, .Name x _ => okGl sc x && T.cs.contains (x, y) && StrGB y
  | .bin op a b, .BinOp p o q _ => op == o && mE T sc a p && mE T sc b q
  | .neg a, .UnaryOp .USub p _ => mE T sc a p
  | .cmp op a b, .Compare p [o] [q] _ => op == o && mE T sc a p && mE T sc b q && notSetE q
  | .chain o1 o2 a b c, .Compare p [o, o'] [q, r] _ => o1 == o && o2 == o' && mE T sc a p && mE T sc b q && mE T sc c r && notSetE r
  | .one a, .BoolOp _ [p] _ => mE T sc a p
  | .and a b, .BoolOp .And (p :: q :: r) pos => mE T sc a p && mE T sc b (.BoolOp .And (q :: r) pos)
  | .or a b, .BoolOp .Or (p :: q :: r) pos => mE T sc a p && mE T sc b (.BoolOp .Or (q :: r) pos)
  | .not a, .UnaryOp .Not p _ => mE T sc a p
  | .ite c a b, .IfExp r p q _ => mE T sc c r && mE T sc a p && mE T sc b q
  | .tup es, .Tuple ps _ _ => mEs T sc es ps
  | .lst es, .List ps _ => mEs T sc es ps
  | .ix a b, .Subscript p q _ => mE T sc a p && mE T sc b q && notSl q
  | .slc a lo hi, .Subscript p (.Slice l h none _) _ => mE T sc a p && mO T sc lo l && mO T sc hi h
  | .call f as, .Call (.Name x _) (p :: ps) [] _ => okGl sc x && mA T sc as (p :: ps) && (match T.fs[f]? with | some (y, n) => x == y && n == (p :: ps).length | none => false)
  | .blt b es, .Call (.Name x _) (p :: ps) [] _ => x == b.nm && okBl T sc x && mEs T sc es (p :: ps)
  | .isi a t, .Call (.Name x _) [p, .Name y _] [] _ => x == ("isinstance" : Str) && y == t.nm && okBl T sc x && okBl T sc y && mE T sc a p && notStar p
  | .lsc i, .Call (.Name x _) [.Name y _] [] _ => x == ("list" : Str) && okBl T sc x && okVar T sc i y
  | .lc elt tg it c vs, .ListComp e [⟨g, t, ifs, isA⟩] scope _ => isA == 0 && blkC T.N sc scope (ownOf T vs) && (mI T sc it t && mTg it g) && notSetE t && mG T (relS scope sc) (blkFn scope) tg g && tg.js.all vs.contains && mC T (relS scope sc) c ifs && mE T (relS scope sc) elt e
  | .app i e, .Call (.Attribute (.Name x _) m ap) [p] [] cp => m == ("append" : Str) && okVar T sc i x && mE T sc e p && notStar p && ap.endLine == cp.line
  | .ext i e, .Call (.Attribute (.Name x _) m ap) [p] [] cp => m == ("extend" : Str) && okVar T sc i x && mE T sc e p && notStar p && ap.endLine == cp.line
  | .popAt i e, .Call (.Attribute (.Name x _) m ap) [p] [] cp => m == ("pop" : Str) && okVar T sc i x && mE T sc e p && notStar p && ap.endLine == cp.line
  | .pop i, .Call (.Attribute (.Name x _) m ap) [] [] cp => m == ("pop" : Str) && okVar T sc i x && ap.endLine == cp.line
  | .mt m o e, .Call (.Attribute p x ap) [q] [] cp => x == m.nm && okBase p && mE T sc o p && mE T sc e q && notStar q && ap.endLine == cp.line
  | .appN j n d, .Call (.Attribute (.Subscript (.Name x _) (.Constant (.int k) _ _) _) m ap) [.Constant c _ _] [] cp => m == ("append" : Str) && okVar T sc j x && k == (n : Int) && cD c d && ap.endLine == cp.line
  | .mvix j n, .Subscript (.Name x _) (.Constant (.int k) _ _) _ => okVar T sc j x && k == (n : Int)
  | .rev a, .Subscript p q _ => isM1 q && mE T sc a p
  | .repC r, p => isRep r p
  | _, _ => false
def mEs (T : Tab) (sc : Scope) : Exs → List Expr → Bool
  | .nil, [] => true
  | .cons e es, p :: ps => mE T sc e p && notStar p && mEs T sc es ps
  | _, _ => false
def mA (T : Tab) (sc : Scope) : Args → List Expr → Bool
  | .nil, [] => true
  | .e a r, p :: ps => mE T sc a p && notStar p && mA T sc r ps
  | .o i r, .Name x _ :: ps => okVar T sc i x && mA T sc r ps
  | _, _ => false
def mO (T : Tab) (sc : Scope) : Opt → Option Expr → Bool
  | .no, none => true
  | .yes e, some p => mE T sc e p
  | _, _ => false
def mC (T : Tab) (sc : Scope) : Opt → List Expr → Bool
  | .no, [] => true
  | .yes e, [p] => mE T sc e p
  | _, _ => false
def mI (T : Tab) (sc : Scope) : Itr' → Expr → Bool
  | .rg i, .Name x _ => okVar T sc i x
  | .e a, p => mE T sc a p
  | .r1 a, .Call (.Name x _) [p] [] _ => x == ("range" : Str) && okBl T sc x && mE T sc a p && notStar p
  | .r2 a b, .Call (.Name x _) [p, q] [] _ => x == ("range" : Str) && okBl T sc x && mE T sc a p && mE T sc b q && notStar p && notStar q
  | .en a, .Call (.Name x _) [p] [] _ => x == ("enumerate" : Str) && okBl T sc x && mE T sc a p && notStar p
  | .rv a, .Call (.Name x _) [p] [] _ => x == ("reversed" : Str) && okBl T sc x && mE T sc a p && notStar p
  | .zp a b, .Call (.Name x _) [p, q] [] _ => x == ("zip" : Str) && okBl T sc x && mE T sc a p && mE T sc b q && notStar p && notStar q
  | _, _ => false
end
mutual
def mS (T : Tab) (sc : Scope) (fn : Str → Bool) : St' → Stmt → Bool
  | .pass, .Pass _ => true
  | .asg i e, .Assign [.Name x _] p _ => okSto T sc fn i x && mE T sc e p && (notComp p || (match e, p with | .lc _ _ _ _ _, .ListComp _ [_] _ _ => true | _, _ => false))
  | .expr e, .Expr p _ => mE T sc e p && notComp p
  | .ret e, .Return (some p) _ => mE T sc e p
  | .retN, .Return none _ => true
  | .iff c a b, .If p x y _ => mE T sc c p && mSs T sc fn a x && mSs T sc fn b y
  | .forr tg it b, .For g t x [] _ => mG T sc fn tg g && (mI T sc it t && mTg it g) && notSetE t && mSs T sc fn b x
  | .whl _ c b, .While p x [] _ => mE T sc c p && mSs T sc fn b x
  | .set j i e, .Assign [.Subscript (.Name x _) q _] p _ => okVar T sc j x && mE T sc i q && mE T sc e p && notSl q
  | .augS j op i e, .AugAssign (.Subscript (.Name x _) q _) o p _ => okVar T sc j x && op == o && mE T sc i q && mE T sc e p && notSl q
  | .aug i op e, .AugAssign (.Name x _) o p _ => okSto T sc fn i x && op == o && mE T sc e p
  | .asgT is e, .Assign [.Tuple es _ _] p _ => mTs T sc fn is es && mE T sc e p && notComp p && notTupE p
  | .bws _ _ _ s, p => mS T sc fn s p
  | .rais c x fld e, .Raise (some (.Call (.Name y _) [p] [] _)) none _ => x == y && okGl sc x && T.ex.contains (c, x, fld) && mE T sc e p && notStar p
  | .tryx b i E h, .Try body [.ExceptHandler (some (.Name y _)) (some n) (b0 :: suite) _] [] [] _ => mSs T sc fn b body && y == E.x && okGl sc y && T.hs.contains E && (T.N[i]? == some n && (match sc.names.lookup n with | some .local => true | _ => false)) && okVar T sc i n && glOk sc ("isinstance" : Str) && mHs E sc n h (b0 :: suite)
  | _, _ => false
def mSs (T : Tab) (sc : Scope) (fn : Str → Bool) : Sts → List Stmt → Bool
  | .nil, [] => true
  | .cons s r, p :: ps => mS T sc fn s p && mSs T sc fn r ps
  | _, _ => false
end
end Vi

set_option Elab.async false
set_option linter.all false
set_option maxRecDepth 100000
set_option maxHeartbeats 8000000
namespace Vi
open PySem L2
structure Good (T : Tab) (ρ : Rho) (S : Ctx) : Prop where
  N : S.N = T.N
  nd : T.N.Nodup
  fs : ∀ f x n, T.fs[f]? = some (x, n) → FnI S x n (ρ f)
  bl : ∀ x, T.bl.contains x = true → S.mg x = none
  ci : ∀ x i, T.ci.contains (x, i) = true → ∃ t, S.mg x = some (.int i t)
  cs : ∀ x y, T.cs.contains (x, y) = true → ∃ t, S.mg x = some (.str y t)
  ex : ∀ c x fld, T.ex.contains (c, x, fld) = true → ∃ (C fI : Addr) (fd : FuncData), ECls S.K S.mg x fld C fI ∧ FnOk S.P S.w S.K S.mg S.base CX0 1 fI fd ["self", fld] (spInit S.K C fld) ∧ Binds S.K fd ["self", fld] [] ∧ 2 ≤ S.k ∧
    ∀ (v : PyData) (u : V) (dx : Addr) (H' : Hp), Rp H' u v → closedD v = true → H' dx = some (.xd [(fld, u)]) → S.exr ⟨c, some v⟩ (.ref C) (some dx) H'
  hs : ∀ E, T.hs.contains E = true → ∃ C Cx0, HOk S E C Cx0
section
variable {T : Tab} {ρ : Rho}
theorem HOk.to {S S' : Ctx} {E : HEnt} {C Cx0 : Addr} (O : HOk S E C Cx0) (e1 : S'.mg = S.mg) (e2 : S'.K = S.K) (e3 : S'.exr = S.exr) (e4 : S'.P = S.P) (e5 : S'.w = S.w) (e6 : S'.base = S.base) (e7 : S'.k = S.k) : HOk S' E C Cx0 := by
  obtain ⟨h1, h2, h3, h4, h5, h6, h7, h8, h9⟩ := O
  refine ⟨by rw [e1]; exact h1, by rw [e2]; exact h2, by rw [e2]; exact h3, by rw [e2]; exact h4, by rw [e2]; exact h5, by rw [e1]; exact h6, by rw [e1, e2]; exact h7, fun x hx => ?_, by rw [e3]; exact h9⟩
  have := h8 x hx
  unfold HotF at this ⊢
  rw [e1, e2, e4, e5, e6, e7]; exact this
theorem Good.blk {S : Ctx} (g : Good T ρ S) (scope : Scope) : Good T ρ (S.blk scope) := ⟨g.N, g.nd, g.fs, g.bl, g.ci, g.cs, g.ex, fun E hE => by
  obtain ⟨C, Cx0, O⟩ := g.hs E hE
  exact ⟨C, Cx0, O.to rfl rfl rfl rfl rfl rfl rfl⟩⟩
theorem Good.wish {S : Ctx} (g : Good T ρ S) (W : WX) : Good T ρ { S with W := W } := ⟨g.N, g.nd, g.fs, g.bl, g.ci, g.cs, g.ex, fun E hE => by
  obtain ⟨C, Cx0, O⟩ := g.hs E hE
  exact ⟨C, Cx0, O.to rfl rfl rfl rfl rfl rfl rfl⟩⟩
theorem okVar_ok {S : Ctx} (g : Good T ρ S) {i : Nat} {x : Str} (h : okVar T S.scope i x = true) : NameOk S i x := by
  unfold okVar at h
  simp only [Bool.and_eq_true, beq_iff_eq, Bool.not_eq_true'] at h
  obtain ⟨⟨⟨h1, h2⟩, h3⟩, h4⟩ := h
  refine ⟨by rw [g.N]; exact h1, ?_, h3, by simpa using h4⟩
  split at h2
  · exact .inl (by assumption)
  · exact .inr (.inl (by assumption))
  · exact .inr (.inr (by assumption))
  · cases h2
theorem okSto_ok {S : Ctx} (g : Good T ρ S) {i : Nat} {x : Str} (h : okSto T S.scope S.fn i x = true) : StoOk S i x := by
  unfold okSto at h
  simp only [Bool.and_eq_true, beq_iff_eq] at h
  obtain ⟨h1, h2⟩ := h
  refine ⟨by rw [g.N]; exact h1, ?_, ?_, by rw [g.N]; exact g.nd⟩
  · split at h2
    · exact .inl (by assumption)
    · exact .inr (by assumption)
    · cases h2
  · split at h2
    · exact .inr (by assumption)
    · exact .inl h2
    · cases h2
theorem okGl_ok {S : Ctx} {x : Str} (h : okGl S.scope x = true) : S.scope.names.lookup x = some .globalImplicit ∧ (x == ("__debug__" : Str)) = false := by
  unfold okGl at h
  rw [Bool.and_eq_true] at h
  refine ⟨?_, by have := h.2; unfold dbg at this; simpa using this⟩
  have h1 := h.1
  split at h1
  · assumption
  · cases h1
theorem okBl_ok {S : Ctx} (g : Good T ρ S) {x : Str} (h : okBl T S.scope x = true) : BltName S x := by
  unfold okBl at h
  rw [Bool.and_eq_true] at h
  refine ⟨?_, g.bl x h.1⟩
  have h1 := h.2
  split at h1
  · assumption
  · cases h1
theorem strG_of {x : Str} (h : StrGB x = true) : StrG x := by
  unfold StrGB at h
  rw [Bool.and_eq_true] at h
  exact ⟨by rw [sizeLine_eq]; exact of_decide_eq_true h.1, h.2⟩
theorem notSet_of {e : Expr} (h : notSetE e = true) : ∀ es k p, e ≠ .Set es k p := fun es k p z => by rw [z] at h; cases h
theorem isRep_of {r : Str} {e : Expr} {S : Ctx} (h : isRep r e = true) : SD S e (fun env => .ok (.str r) env) := by
  unfold isRep at h
  split at h
  · simp only [Bool.and_eq_true, beq_iff_eq, decide_eq_true_eq, Bool.not_eq_true'] at h
    obtain ⟨⟨⟨⟨⟨rfl, h1⟩, h2⟩, h3⟩, h4⟩, h5⟩ := h
    rw [← h4] at h5 ⊢
    exact fun σ env Z H F I Q k _ _ => ⟨_, fun X hX => pe_repC h1 h2 (by simpa using h3), k _ _ rfl _ Z H F I (.str _ (strG_of h5)) .refl⟩
  · cases h
theorem isM1_of {e : Expr} (h : isM1 e = true) : ∃ k0 p1 p2 p3, e = .Slice none none (some (.UnaryOp .USub (.Constant (.int 1) k0 p1) p2)) p3 := by
  unfold isM1 at h
  split at h
  · rw [beq_iff_eq] at h
    subst h
    exact ⟨_, _, _, _, rfl⟩
  · cases h
theorem notSl_of {e : Expr} (h : notSl e = true) : ∀ l u st p, e ≠ .Slice l u st p := fun l u st p z => by rw [z] at h; cases h
theorem mTs_ok {S : Ctx} (g : Good T ρ S) : ∀ {is : List Nat} {ps : List Expr}, mTs T S.scope S.fn is ps = true → SGs S ps is (bdsN is) ∧ ps.length = is.length ∧ ps.all notStar = true
  | [], [], _ => ⟨sgs_nil, rfl, rfl⟩
  | i :: is, p :: ps, h => by
    cases p with
    | Name x pos =>
      have h : (okSto T S.scope S.fn i x && mTs T S.scope S.fn is ps) = true := h
      rw [Bool.and_eq_true] at h
      obtain ⟨h1, h2, h3⟩ := mTs_ok g h.2
      refine ⟨sgs_cons (js := [i]) (sg_name (okSto_ok g h.1)) h1 rfl, by simp [h2], by rw [List.all_cons, h3]; rfl⟩
    | _ => cases h
  | [], _ :: _, h => by cases h
  | _ :: _, [], h => by cases h
theorem mG_ok {S : Ctx} (g : Good T ρ S) {t : Tg} {p : Expr} (h : mG T S.scope S.fn t p = true) : SG S p t.js (bdG t) := by
  cases t with
  | nm i =>
    cases p with
    | Name x pos => exact sg_name (okSto_ok g h)
    | _ => cases h
  | tp is =>
    cases p with
    | Tuple es k pos =>
      obtain ⟨h1, h2, h3⟩ := mTs_ok g (show mTs T S.scope S.fn is es = true from h)
      have := sg_tup (k0 := k) (pos := pos) h1 h3
      rw [h2] at this
      exact this
    | _ => cases h
theorem mEs_star {S : Ctx} : ∀ {es : Exs} {ps : List Expr}, mEs T S.scope es ps = true → ps.all notStar = true
  | .nil, [], _ => rfl
  | .cons e es, p :: ps, h => by
    simp only [mEs, Bool.and_eq_true] at h
    rw [List.all_cons, h.1.2, mEs_star h.2]; rfl
  | .nil, _ :: _, h => by simp [mEs] at h
  | .cons _ _, [], h => by simp [mEs] at h
theorem mA_star {S : Ctx} : ∀ {as : Args} {ps : List Expr}, mA T S.scope as ps = true → ps.all notStar = true ∧ (evA ρ as).length = ps.length
  | .nil, [], _ => ⟨rfl, by simp [evA]⟩
  | .e a r, p :: ps, h => by
    simp only [mA, Bool.and_eq_true] at h
    obtain ⟨h1, h2⟩ := mA_star h.2
    refine ⟨by rw [List.all_cons, h.1.2, h1]; rfl, ?_⟩
    unfold evA
    rw [List.length_cons, List.length_cons, h2]
  | .o i r, p :: ps, h => by
    cases p with
    | Name x pos =>
      simp only [mA, Bool.and_eq_true] at h
      obtain ⟨h1, h2⟩ := mA_star h.2
      refine ⟨by rw [List.all_cons, h1]; rfl, ?_⟩
      unfold evA
      rw [List.length_cons, List.length_cons, h2]
    | _ => simp [mA] at h
  | .nil, _ :: _, h => by simp [mA] at h
  | .e _ _, [], h => by simp [mA] at h
  | .o _ _, [], h => by simp [mA] at h
theorem sw_bw {S : Ctx} {e : Expr} {m : M Bool} (vs ks : List Nat) (h : SW S e m) : SW S e (bwT vs ks m) := .of fun σ env Z H F I Q mm hm k kx kb => by
  unfold bwT at hm
  split at hm
  · rename_i hno
    obtain ⟨Z1, F1, I1, s1⟩ := frzE_ok vs I
    obtain ⟨F2, I2⟩ := killE_ok ks I1
    have no := I2.noOwn hno
    refine h σ _ Z1 H F2 I2 Q (fun r env' q Z' H' F'' I' s => ?_) (fun x env' q Z' H' F'' cls d I' s hx => ?_) fun q => kb (by rw [hm, q])
    · rw [q] at hm
      obtain ⟨⟨A1, A2⟩, _⟩ := view_back I I1 s1 no s I'.sub
      exact k _ _ hm Z H' F A1 A2
    · rw [q] at hm
      obtain ⟨_, B1, B2⟩ := view_back I I1 s1 no s I'.sub
      exact kx x _ hm Z' H' F1 cls d B1 B2 hx
  · exact absurd hm kb
theorem ownOf_snd (vs : List Nat) : (ownOf T vs).map (·.2) = vs := by
  unfold ownOf
  rw [List.map_map]
  exact List.map_id vs
mutual
theorem sv_ev : ∀ (e : Ex') (S : Ctx) (p : Expr), Good T ρ S → mE T S.scope e p = true → SV S p (ev ρ e)
  | .var i, S, p, g, h => by
    cases p with
    | Name x pos => simp only [mE] at h; simp only [ev]; exact sv_var (okVar_ok g h)
    | _ => simp [mE] at h
  | .mv i, S, p, g, h => by
    cases p with
    | Name x pos => simp only [mE] at h; simp only [ev]; exact sv_mv (okVar_ok g h)
    | _ => simp [mE] at h
  | .bw vs ks e, S, p, g, h => by
    simp only [mE] at h; simp only [ev]
    exact sv_bw vs ks (sv_ev e S p g h)
  | .int i, S, p, g, h => by
    cases p with
    | Constant c k pos =>
      cases c with
      | int j => simp only [mE, beq_iff_eq] at h; subst h; simp only [ev]; exact sd_int.v
      | _ => simp [mE] at h
    | _ => simp [mE] at h
  | .bl b, S, p, g, h => by
    cases p with
    | Constant c k pos =>
      cases c with
      | bool j => simp only [mE, beq_iff_eq] at h; subst h; simp only [ev]; exact sd_bl.v
      | _ => simp [mE] at h
    | _ => simp [mE] at h
  | .non, S, p, g, h => by
    cases p with
    | Constant c k pos =>
      cases c with
      | none => simp only [ev]; exact sd_non.v
      | _ => simp [mE] at h
    | _ => simp [mE] at h
  | .str x, S, p, g, h => by
    cases p with
    | Constant c k pos =>
      cases c with
      | str j =>
        simp only [mE, Bool.and_eq_true, beq_iff_eq] at h
        obtain ⟨rfl, h⟩ := h
        simp only [ev]; exact (sd_str (strG_of h)).v
      | _ => simp [mE] at h
    | _ => simp [mE] at h
  | .gi i, S, p, g, h => by
    cases p with
    | Name x pos =>
      simp only [mE, Bool.and_eq_true] at h
      obtain ⟨h1, h2⟩ := okGl_ok h.1
      obtain ⟨t, ht⟩ := g.ci x i h.2
      simp only [ev]; exact (sd_gi h1 ht h2).v
    | _ => simp [mE] at h
  | .gs y, S, p, g, h => by
    cases p with
    | Name x pos =>
      simp only [mE, Bool.and_eq_true] at h
      obtain ⟨h1, h2⟩ := okGl_ok h.1.1
      obtain ⟨t, ht⟩ := g.cs x y h.1.2
      simp only [ev]; exact (sd_gs h1 ht (strG_of h.2) h2).v
    | _ => simp [mE] at h
  | .bin op a b, S, p, g, h => by
    cases p with
    | BinOp p o q pos =>
      simp only [mE, Bool.and_eq_true, beq_iff_eq] at h
      obtain ⟨⟨rfl, h1⟩, h2⟩ := h
      simp only [ev]; exact sv_bin (sv_ev a S p g h1).d (sv_ev b S q g h2).d (ok_bin op)
    | _ => simp [mE] at h
  | .neg a, S, p, g, h => by
    cases p with
    | UnaryOp o p pos =>
      cases o with
      | USub => simp only [mE] at h; simp only [ev]; exact sv_neg (sv_ev a S p g h).d
      | _ => simp [mE] at h
    | _ => simp [mE] at h
  | .cmp op a b, S, p, g, h => by
    cases p with
    | Compare p os qs pos =>
      match os, qs, h with
      | [o], [q], h =>
        simp only [mE, Bool.and_eq_true, beq_iff_eq] at h
        obtain ⟨⟨⟨rfl, h1⟩, h2⟩, h3⟩ := h
        simp only [ev]
        exact (sd_cmp (sv_ev a S p g h1).d (sv_ev b S q g h2).d (notSet_of h3)).v.congr fun env => by cases cmp2 (fun env => (ev ρ a env).d) (fun env => (ev ρ b env).d) (cmpD op) env <;> rfl
      | [], _, h => simp [mE] at h
      | _ :: _ :: _, [], h => simp [mE] at h
      | _ :: _ :: _, [_], h => simp [mE] at h
      | _ :: _ :: _, _ :: _ :: _, h => simp [mE] at h
      | [_], [], h => simp [mE] at h
      | [_], _ :: _ :: _, h => simp [mE] at h
    | _ => simp [mE] at h
  | .chain o1 o2 a b c, S, p, g, h => by
    cases p with
    | Compare p os qs pos =>
      match os, qs, h with
      | [o, o'], [q, r], h =>
        simp only [mE, Bool.and_eq_true, beq_iff_eq] at h
        obtain ⟨⟨⟨⟨⟨rfl, rfl⟩, h1⟩, h2⟩, h3⟩, h4⟩ := h
        simp only [ev]
        exact (sd_chain (sv_ev a S p g h1).d (sv_ev b S q g h2).d (sv_ev c S r g h3).d (notSet_of h4)).v.congr fun env => by cases chain2 (fun env => (ev ρ a env).d) (fun env => (ev ρ b env).d) (fun env => (ev ρ c env).d) (cmpD o1) (cmpD o2) env <;> rfl
      | [], _, h => simp [mE] at h
      | [_], _, h => simp [mE] at h
      | _ :: _ :: _ :: _, _, h => simp [mE] at h
      | [_, _], [], h => simp [mE] at h
      | [_, _], [_], h => simp [mE] at h
      | [_, _], _ :: _ :: _ :: _, h => simp [mE] at h
    | _ => simp [mE] at h
  | .one a, S, p, g, h => by
    cases p with
    | BoolOp o ps pos =>
      match ps, h with
      | [p], h => simp only [mE] at h; simp only [ev]; exact (sd_one (sv_ev a S p g h).d).v
      | [], h => simp [mE] at h
      | _ :: _ :: _, h => simp [mE] at h
    | _ => simp [mE] at h
  | .and a b, S, p, g, h => by
    cases p with
    | BoolOp o ps pos =>
      cases o with
      | And =>
        match ps, h with
        | p :: q :: r, h =>
          simp only [mE, Bool.and_eq_true] at h
          simp only [ev]
          exact (sd_and (sv_ev a S p g h.1).d (sv_ev b S (.BoolOp .And (q :: r) pos) g h.2).d).v
        | [], h => simp [mE] at h
        | [_], h => simp [mE] at h
      | Or => simp [mE] at h
    | _ => simp [mE] at h
  | .or a b, S, p, g, h => by
    cases p with
    | BoolOp o ps pos =>
      cases o with
      | Or =>
        match ps, h with
        | p :: q :: r, h =>
          simp only [mE, Bool.and_eq_true] at h
          simp only [ev]
          exact (sd_or (sv_ev a S p g h.1).d (sv_ev b S (.BoolOp .Or (q :: r) pos) g h.2).d).v
        | [], h => simp [mE] at h
        | [_], h => simp [mE] at h
      | And => simp [mE] at h
    | _ => simp [mE] at h
  | .not a, S, p, g, h => by
    cases p with
    | UnaryOp o p pos =>
      cases o with
      | Not => simp only [mE] at h; simp only [ev]; exact (sd_not (sv_ev a S p g h).d).v
      | _ => simp [mE] at h
    | _ => simp [mE] at h
  | .ite c a b, S, p, g, h => by
    cases p with
    | IfExp r p q pos =>
      simp only [mE, Bool.and_eq_true] at h
      simp only [ev]; exact sv_ite (sb_ev c S r g h.1.1) (sv_ev a S p g h.1.2) (sv_ev b S q g h.2)
    | _ => simp [mE] at h
  | .tup es, S, p, g, h => by
    cases p with
    | Tuple ps k pos => simp only [mE] at h; simp only [ev]; exact (sd_tup (sl_ev es S ps g h)).v
    | _ => simp [mE] at h
  | .lst es, S, p, g, h => by
    cases p with
    | List ps pos => simp only [mE] at h; simp only [ev]; exact sv_lst (so_ev es S ps g h)
    | _ => simp [mE] at h
  | .ix a b, S, p, g, h => by
    cases p with
    | Subscript p q pos =>
      simp only [mE, Bool.and_eq_true] at h
      simp only [ev]; exact (sd_ix (sv_ev a S p g h.1.1).d (sv_ev b S q g h.1.2).d (notSl_of h.2)).v
    | _ => simp [mE] at h
  | .slc a lo hi, S, p, g, h => by
    cases p with
    | Subscript p q pos =>
      cases q with
      | Slice l u st p2 =>
        cases st with
        | none =>
          simp only [mE, Bool.and_eq_true] at h
          simp only [ev]; exact sv_slice (sv_ev a S p g h.1.1).d (sp_ev lo S l g h.1.2) (sp_ev hi S u g h.2)
        | some _ => simp [mE] at h
      | _ => simp [mE] at h
    | _ => simp [mE] at h
  | .call f as, S, p, g, h => by
    cases p with
    | Call fn ps ks pos =>
      cases fn with
      | Name x p2 =>
        match ps, ks, h with
        | p :: ps, [], h =>
          simp only [mE, Bool.and_eq_true] at h
          obtain ⟨⟨h1, h2⟩, h3⟩ := h
          cases q : T.fs[f]? with
          | none => rw [q] at h3; cases h3
          | some yn =>
            obtain ⟨y, n⟩ := yn
            rw [q] at h3
            simp only [Bool.and_eq_true, beq_iff_eq] at h3
            obtain ⟨rfl, rfl⟩ := h3
            obtain ⟨g1, g2⟩ := okGl_ok h1
            obtain ⟨a1, a2⟩ := mA_star (ρ := ρ) h2
            have hf := g.fs f x _ q
            rw [← a2] at hf
            simp only [ev]; exact sv_call hf g1 g2 (sa_ev as S _ g h2) a1
        | [], _, h => simp [mE] at h
        | _ :: _, _ :: _, h => simp [mE] at h
      | _ => simp [mE] at h
    | _ => simp [mE] at h
  | .blt b es, S, p, g, h => by
    cases p with
    | Call fn ps ks pos =>
      cases fn with
      | Name x p2 =>
        match ps, ks, h with
        | p :: ps, [], h =>
          simp only [mE, Bool.and_eq_true, beq_iff_eq] at h
          obtain ⟨⟨rfl, h2⟩, h3⟩ := h
          simp only [ev]; exact sv_blt (okBl_ok g h2) b.kind b.boot b.ne b.nd (ok_bf b) (sl_ev es S _ g h3) (mEs_star h3)
        | [], _, h => simp [mE] at h
        | _ :: _, _ :: _, h => simp [mE] at h
      | _ => simp [mE] at h
    | _ => simp [mE] at h
  | .isi a t, S, p, g, h => by
    cases p with
    | Call fn ps ks pos =>
      cases fn with
      | Name x p2 =>
        match ps, ks, h with
        | [p, q], [], h =>
          cases q with
          | Name y p3 =>
            simp only [mE, Bool.and_eq_true, beq_iff_eq] at h
            obtain ⟨⟨⟨⟨⟨rfl, rfl⟩, h1⟩, h2⟩, h3⟩, h4⟩ := h
            simp only [ev]; exact (sd_isi (okBl_ok g h1) (okBl_ok g h2) (sv_ev a S p g h3).d h4).v
          | _ => simp [mE] at h
        | [], _, h => simp [mE] at h
        | [_], _, h => simp [mE] at h
        | _ :: _ :: _ :: _, _, h => simp [mE] at h
        | [_, _], _ :: _, h => simp [mE] at h
      | _ => simp [mE] at h
    | _ => simp [mE] at h
  | .lsc i, S, p, g, h => by
    cases p with
    | Call fn ps ks pos =>
      cases fn with
      | Name x p2 =>
        match ps, ks, h with
        | [q], [], h =>
          cases q with
          | Name y p3 =>
            simp only [mE, Bool.and_eq_true, beq_iff_eq] at h
            obtain ⟨⟨rfl, h1⟩, h2⟩ := h
            simp only [ev]; exact sv_lsc (okBl_ok g h1) (okVar_ok g h2)
          | _ => simp [mE] at h
        | [], _, h => simp [mE] at h
        | _ :: _ :: _, _, h => simp [mE] at h
        | [_], _ :: _, h => simp [mE] at h
      | _ => simp [mE] at h
    | _ => simp [mE] at h
  | .lc elt tg it c vs, S, p, g, h => by
    cases p with
    | ListComp e gs scope pos =>
      match gs, h with
      | [⟨g1, t, ifs, isA⟩], h =>
        simp only [mE, Bool.and_eq_true, beq_iff_eq] at h
        obtain ⟨⟨⟨⟨⟨⟨⟨rfl, h1⟩, h2⟩, h3⟩, h4⟩, h5⟩, h6⟩, h7⟩ := h
        have gb := g.blk scope
        have ok : BlkOk S.N S.scope scope (ownOf T vs) := by rw [g.N]; exact blkOk_by h1
        have hg : SG (S.blk scope) g1 tg.js (bdG tg) := mG_ok gb h4
        have ht : STs (S.blk scope) ifs (evC ρ c) := sc_ev c (S.blk scope) ifs gb h6
        have he : SV (S.blk scope) e (ev ρ elt) := sv_ev elt (S.blk scope) e gb h7
        have hj : ∀ j, j ∈ tg.js → j ∈ (ownOf T vs).map (·.2) := fun j hj => by
          rw [ownOf_snd]
          exact List.contains_iff_mem.mp (List.all_eq_true.mp h5 j hj)
        have := sv_lc (pos := pos) (si_ev it S g1 t g h2.1 h2.2) (by rw [g.N]; exact g.nd) ok hj hg ht he h3
        rw [ownOf_snd] at this
        simp only [ev]; exact this
      | [], h => simp [mE] at h
      | _ :: _ :: _, h => simp [mE] at h
    | _ => simp [mE] at h
  | .app i e, S, p, g, h => by
    cases p with
    | Call fn ps ks pos =>
      cases fn with
      | Attribute o m ap =>
        cases o with
        | Name x p2 =>
          match ps, ks, h with
          | [q], [], h =>
            simp only [mE, Bool.and_eq_true, beq_iff_eq] at h
            obtain ⟨⟨⟨⟨rfl, h1⟩, h2⟩, h3⟩, h4⟩ := h
            simp only [ev]; exact sv_app (okVar_ok g h1) (sv_ev e S q g h2) h3 (by simpa using h4)
          | [], _, h => simp [mE] at h
          | _ :: _ :: _, _, h => simp [mE] at h
          | [_], _ :: _, h => simp [mE] at h
        | _ => simp [mE] at h
      | _ => simp [mE] at h
    | _ => simp [mE] at h
  | .ext i e, S, p, g, h => by
    cases p with
    | Call fn ps ks pos =>
      cases fn with
      | Attribute o m ap =>
        cases o with
        | Name x p2 =>
          match ps, ks, h with
          | [q], [], h =>
            simp only [mE, Bool.and_eq_true, beq_iff_eq] at h
            obtain ⟨⟨⟨⟨rfl, h1⟩, h2⟩, h3⟩, h4⟩ := h
            simp only [ev]; exact sv_ext (okVar_ok g h1) (sv_ev e S q g h2).d h3 (by simpa using h4)
          | [], _, h => simp [mE] at h
          | _ :: _ :: _, _, h => simp [mE] at h
          | [_], _ :: _, h => simp [mE] at h
        | _ => simp [mE] at h
      | _ => simp [mE] at h
    | _ => simp [mE] at h
  | .popAt i e, S, p, g, h => by
    cases p with
    | Call fn ps ks pos =>
      cases fn with
      | Attribute o m ap =>
        cases o with
        | Name x p2 =>
          match ps, ks, h with
          | [q], [], h =>
            simp only [mE, Bool.and_eq_true, beq_iff_eq] at h
            obtain ⟨⟨⟨⟨rfl, h1⟩, h2⟩, h3⟩, h4⟩ := h
            simp only [ev]; exact sv_popAt (okVar_ok g h1) (sv_ev e S q g h2).d h3 (by simpa using h4)
          | [], _, h => simp [mE] at h
          | _ :: _ :: _, _, h => simp [mE] at h
          | [_], _ :: _, h => simp [mE] at h
        | _ => simp [mE] at h
      | _ => simp [mE] at h
    | _ => simp [mE] at h
  | .pop i, S, p, g, h => by
    cases p with
    | Call fn ps ks pos =>
      cases fn with
      | Attribute o m ap =>
        cases o with
        | Name x p2 =>
          match ps, ks, h with
          | [], [], h =>
            simp only [mE, Bool.and_eq_true, beq_iff_eq] at h
            obtain ⟨⟨rfl, h1⟩, h4⟩ := h
            simp only [ev]; exact sv_pop (okVar_ok g h1) (by simpa using h4)
          | _ :: _, _, h => simp [mE] at h
          | [], _ :: _, h => simp [mE] at h
        | _ => simp [mE] at h
      | _ => simp [mE] at h
    | _ => simp [mE] at h
  | .mt m o e, S, p, g, h => by
    cases p with
    | Call fn ps ks pos =>
      cases fn with
      | Attribute q x ap =>
        match ps, ks, h with
        | [r], [], h =>
          simp only [mE, Bool.and_eq_true, beq_iff_eq] at h
          obtain ⟨⟨⟨⟨⟨rfl, h0⟩, h1⟩, h2⟩, h3⟩, h4⟩ := h
          simp only [ev]
          exact (sd_mt (apos := ap) (pos := pos) m (sv_ev o S q g h1).d (sv_ev e S r g h2).d h3 (fun X _ => by cases q <;> first | rfl | (cases h0)) (by simpa using h4)).v
        | [], _, h => simp [mE] at h
        | _ :: _ :: _, _, h => simp [mE] at h
        | [_], _ :: _, h => simp [mE] at h
      | _ => simp [mE] at h
    | _ => simp [mE] at h
  | .appN j n d, S, p, g, h => by
    cases p with
    | Call fn ps ks pos =>
      cases fn with
      | Attribute o m ap =>
        cases o with
        | Subscript ob q sp =>
          cases ob with
          | Name x np =>
            cases q with
            | Constant c1 kk kp =>
              cases c1 with
              | int k =>
                match ps, ks, h with
                | [r], [], h =>
                  cases r with
                  | Constant c k2 kp2 =>
                    simp only [mE, Bool.and_eq_true, beq_iff_eq] at h
                    obtain ⟨⟨⟨⟨rfl, h1⟩, rfl⟩, h2⟩, h3⟩ := h
                    simp only [ev]
                    cases c with
                    | int i =>
                      cases d with
                      | int i' =>
                        have e : i = i' := by simpa [cD] using h2
                        subst e
                        exact sv_appN (okVar_ok g h1) (fun H => .int i) (fun X => pe_int) rfl (by simpa using h3)
                      | _ => cases h2
                    | str z =>
                      cases d with
                      | str z' =>
                        have e : z = z' ∧ StrGB z' = true := by simpa [cD] using h2
                        obtain ⟨rfl, hg⟩ := e
                        exact sv_appN (okVar_ok g h1) (fun H => .str z (strG_of hg)) (fun X => pe_str) rfl (by simpa using h3)
                      | _ => cases h2
                    | _ => cases h2
                  | _ => simp [mE] at h
                | [], _, h => simp [mE] at h
                | _ :: _ :: _, _, h => simp [mE] at h
                | [_], _ :: _, h => simp [mE] at h
              | _ => simp [mE] at h
            | _ => simp [mE] at h
          | _ => simp [mE] at h
        | _ => simp [mE] at h
      | _ => simp [mE] at h
    | _ => simp [mE] at h
  | .mvix j n, S, p, g, h => by
    cases p with
    | Subscript ob q sp =>
      cases ob with
      | Name x np =>
        cases q with
        | Constant c1 kk kp =>
          cases c1 with
          | int k =>
            simp only [mE, Bool.and_eq_true, beq_iff_eq] at h
            obtain ⟨h1, rfl⟩ := h
            simp only [ev]; exact sv_mvix (okVar_ok g h1)
          | _ => simp [mE] at h
        | _ => simp [mE] at h
      | _ => simp [mE] at h
    | _ => simp [mE] at h
  | .rev a, S, p, g, h => by
    cases p with
    | Subscript p q pos =>
      simp only [mE, Bool.and_eq_true] at h
      obtain ⟨h1, h2⟩ := h
      obtain ⟨k0, p1, p2, p3, rfl⟩ := isM1_of h1
      simp only [ev]; exact sv_rev (sv_ev a S p g h2).d
    | _ => simp [mE] at h
  | .repC r, S, p, g, h => by
    simp only [mE] at h
    simp only [ev]; exact (isRep_of h).v
theorem sb_ev : ∀ (e : Ex') (S : Ctx) (p : Expr), Good T ρ S → mE T S.scope e p = true → SB S p (evT ρ e)
  | .bw vs ks e, S, p, g, h => by
    simp only [mE] at h; simp only [evT]
    exact sb_bw vs ks (sb_ev e S p g h)
  | .cmp op a b, S, p, g, h => by
    cases p with
    | Compare p os qs pos =>
      match os, qs, h with
      | [o], [q], h =>
        simp only [mE, Bool.and_eq_true, beq_iff_eq] at h
        obtain ⟨⟨⟨rfl, h1⟩, h2⟩, h3⟩ := h
        simp only [evT]
        exact sb_cmp (sv_ev a S p g h1).d (sv_ev b S q g h2).d (notSet_of h3)
      | [], _, h => simp [mE] at h
      | _ :: _ :: _, [], h => simp [mE] at h
      | _ :: _ :: _, [_], h => simp [mE] at h
      | _ :: _ :: _, _ :: _ :: _, h => simp [mE] at h
      | [_], [], h => simp [mE] at h
      | [_], _ :: _ :: _, h => simp [mE] at h
    | _ => simp [mE] at h
  | .chain o1 o2 a b c, S, p, g, h => by
    cases p with
    | Compare p os qs pos =>
      match os, qs, h with
      | [o, o'], [q, r], h =>
        simp only [mE, Bool.and_eq_true, beq_iff_eq] at h
        obtain ⟨⟨⟨⟨⟨rfl, rfl⟩, h1⟩, h2⟩, h3⟩, h4⟩ := h
        simp only [evT]
        exact sb_chain (sv_ev a S p g h1).d (sv_ev b S q g h2).d (sv_ev c S r g h3).d (notSet_of h4)
      | [], _, h => simp [mE] at h
      | [_], _, h => simp [mE] at h
      | _ :: _ :: _ :: _, _, h => simp [mE] at h
      | [_, _], [], h => simp [mE] at h
      | [_, _], [_], h => simp [mE] at h
      | [_, _], _ :: _ :: _ :: _, h => simp [mE] at h
    | _ => simp [mE] at h
  | .one a, S, p, g, h => by
    cases p with
    | BoolOp o ps pos =>
      match ps, h with
      | [q], h =>
        have hq : mE T S.scope a q = true := by simp only [mE] at h; exact h
        simp only [evT]
        cases o with
        | And => exact (sw_and1 (sb_ev a S q g hq)).sb
        | Or => exact (sw_or1 (sb_ev a S q g hq)).sb
      | [], h => simp [mE] at h
      | _ :: _ :: _, h => simp [mE] at h
    | _ => simp [mE] at h
  | .and a b, S, p, g, h => by
    cases p with
    | BoolOp o ps pos =>
      cases o with
      | And =>
        match ps, h with
        | p :: q :: r, h =>
          simp only [mE, Bool.and_eq_true] at h
          simp only [evT]
          exact (sw_and (sb_ev a S p g h.1) (sw_ev b S .And (q :: r) pos g h.2)).sb
        | [], h => simp [mE] at h
        | [_], h => simp [mE] at h
      | Or => simp [mE] at h
    | _ => simp [mE] at h
  | .or a b, S, p, g, h => by
    cases p with
    | BoolOp o ps pos =>
      cases o with
      | Or =>
        match ps, h with
        | p :: q :: r, h =>
          simp only [mE, Bool.and_eq_true] at h
          simp only [evT]
          exact (sw_or (sb_ev a S p g h.1) (sw_ev b S .Or (q :: r) pos g h.2)).sb
        | [], h => simp [mE] at h
        | [_], h => simp [mE] at h
      | And => simp [mE] at h
    | _ => simp [mE] at h
  | .not a, S, p, g, h => by
    cases p with
    | UnaryOp o p pos =>
      cases o with
      | Not => simp only [mE] at h; simp only [evT]; exact sb_not (sb_ev a S p g h)
      | _ => simp [mE] at h
    | _ => simp [mE] at h
  | .ite c a b, S, p, g, h => by
    simp only [evT]
    exact fun σ env Z H F I Q k kx kb => absurd rfl kb
  | .var i, S, p, g, h => by simp only [evT]; exact (sv_ev (.var i) S p g h).d.tst (by cases p <;> first | rfl | (simp [mE] at h))
  | .mv i, S, p, g, h => by simp only [evT]; exact (sv_ev (.mv i) S p g h).d.tst (by cases p <;> first | rfl | (simp [mE] at h))
  | .int i, S, p, g, h => by simp only [evT]; exact (sv_ev (.int i) S p g h).d.tst (by cases p <;> first | rfl | (simp [mE] at h))
  | .bl i, S, p, g, h => by simp only [evT]; exact (sv_ev (.bl i) S p g h).d.tst (by cases p <;> first | rfl | (simp [mE] at h))
  | .non, S, p, g, h => by simp only [evT]; exact (sv_ev .non S p g h).d.tst (by cases p <;> first | rfl | (simp [mE] at h))
  | .str i, S, p, g, h => by simp only [evT]; exact (sv_ev (.str i) S p g h).d.tst (by cases p <;> first | rfl | (simp [mE] at h))
  | .gi i, S, p, g, h => by simp only [evT]; exact (sv_ev (.gi i) S p g h).d.tst (by cases p <;> first | rfl | (simp [mE] at h))
  | .gs i, S, p, g, h => by simp only [evT]; exact (sv_ev (.gs i) S p g h).d.tst (by cases p <;> first | rfl | (simp [mE] at h))
  | .bin op a b, S, p, g, h => by simp only [evT]; exact (sv_ev (.bin op a b) S p g h).d.tst (by cases p <;> first | rfl | (simp [mE] at h))
  | .neg a, S, p, g, h => by
    simp only [evT]
    refine (sv_ev (.neg a) S p g h).d.tst ?_
    cases p with
    | UnaryOp o _ _ => cases o <;> first | rfl | (simp [mE] at h)
    | _ => first | rfl | (simp [mE] at h)
  | .tup es, S, p, g, h => by simp only [evT]; exact (sv_ev (.tup es) S p g h).d.tst (by cases p <;> first | rfl | (simp [mE] at h))
  | .lst es, S, p, g, h => by simp only [evT]; exact (sv_ev (.lst es) S p g h).d.tst (by cases p <;> first | rfl | (simp [mE] at h))
  | .ix a b, S, p, g, h => by simp only [evT]; exact (sv_ev (.ix a b) S p g h).d.tst (by cases p <;> first | rfl | (simp [mE] at h))
  | .slc a lo hi, S, p, g, h => by simp only [evT]; exact (sv_ev (.slc a lo hi) S p g h).d.tst (by cases p <;> first | rfl | (simp [mE] at h))
  | .call f as, S, p, g, h => by simp only [evT]; exact (sv_ev (.call f as) S p g h).d.tst (by cases p <;> first | rfl | (simp [mE] at h))
  | .blt b es, S, p, g, h => by simp only [evT]; exact (sv_ev (.blt b es) S p g h).d.tst (by cases p <;> first | rfl | (simp [mE] at h))
  | .isi a t, S, p, g, h => by simp only [evT]; exact (sv_ev (.isi a t) S p g h).d.tst (by cases p <;> first | rfl | (simp [mE] at h))
  | .lsc i, S, p, g, h => by simp only [evT]; exact (sv_ev (.lsc i) S p g h).d.tst (by cases p <;> first | rfl | (simp [mE] at h))
  | .lc elt tg it c vs, S, p, g, h => by simp only [evT]; exact (sv_ev (.lc elt tg it c vs) S p g h).d.tst (by cases p <;> first | rfl | (simp [mE] at h))
  | .app i e, S, p, g, h => by simp only [evT]; exact (sv_ev (.app i e) S p g h).d.tst (by cases p <;> first | rfl | (simp [mE] at h))
  | .ext i e, S, p, g, h => by simp only [evT]; exact (sv_ev (.ext i e) S p g h).d.tst (by cases p <;> first | rfl | (simp [mE] at h))
  | .popAt i e, S, p, g, h => by simp only [evT]; exact (sv_ev (.popAt i e) S p g h).d.tst (by cases p <;> first | rfl | (simp [mE] at h))
  | .pop i, S, p, g, h => by simp only [evT]; exact (sv_ev (.pop i) S p g h).d.tst (by cases p <;> first | rfl | (simp [mE] at h))
  | .mt m o e, S, p, g, h => by simp only [evT]; exact (sv_ev (.mt m o e) S p g h).d.tst (by cases p <;> first | rfl | (simp [mE] at h))
  | .appN j n d, S, p, g, h => by simp only [evT]; exact (sv_ev (.appN j n d) S p g h).d.tst (by cases p <;> first | rfl | (simp [mE] at h))
  | .mvix j n, S, p, g, h => by simp only [evT]; exact (sv_ev (.mvix j n) S p g h).d.tst (by cases p <;> first | rfl | (simp [mE] at h))
  | .rev a, S, p, g, h => by simp only [evT]; exact (sv_ev (.rev a) S p g h).d.tst (by cases p <;> first | rfl | (simp [mE] at h))
  | .repC r, S, p, g, h => by simp only [evT]; exact (sv_ev (.repC r) S p g h).d.tst (by cases p <;> first | rfl | (simp [mE, isRep] at h))
/-- the rest of an and, of an or -/
theorem sw_ev : ∀ (e : Ex') (S : Ctx) (o : BoolOp) (ps : List Expr) (pos : Pos), Good T ρ S → mE T S.scope e (.BoolOp o ps pos) = true → SW S (.BoolOp o ps pos) (evT ρ e)
  | .one a, S, o, ps, pos, g, h => by
    match ps, h with
    | [q], h =>
      have hq : mE T S.scope a q = true := by simp only [mE] at h; exact h
      simp only [evT]
      cases o with
      | And => exact sw_and1 (sb_ev a S q g hq)
      | Or => exact sw_or1 (sb_ev a S q g hq)
    | [], h => simp [mE] at h
    | _ :: _ :: _, h => simp [mE] at h
  | .and a b, S, o, ps, pos, g, h => by
    cases o with
    | And =>
      match ps, h with
      | p :: q :: r, h =>
        simp only [mE, Bool.and_eq_true] at h
        simp only [evT]
        exact sw_and (sb_ev a S p g h.1) (sw_ev b S .And (q :: r) pos g h.2)
      | [], h => simp [mE] at h
      | [_], h => simp [mE] at h
    | Or => simp [mE] at h
  | .or a b, S, o, ps, pos, g, h => by
    cases o with
    | Or =>
      match ps, h with
      | p :: q :: r, h =>
        simp only [mE, Bool.and_eq_true] at h
        simp only [evT]
        exact sw_or (sb_ev a S p g h.1) (sw_ev b S .Or (q :: r) pos g h.2)
      | [], h => simp [mE] at h
      | [_], h => simp [mE] at h
    | And => simp [mE] at h
  | .bw vs ks e, S, o, ps, pos, g, h => by
    simp only [mE] at h; simp only [evT]
    exact sw_bw vs ks (sw_ev e S o ps pos g h)
  | .var _, _, _, _, _, _, h => by simp [mE] at h
  | .mv _, _, _, _, _, _, h => by simp [mE] at h
  | .int _, _, _, _, _, _, h => by simp [mE] at h
  | .bl _, _, _, _, _, _, h => by simp [mE] at h
  | .non, _, _, _, _, _, h => by simp [mE] at h
  | .str _, _, _, _, _, _, h => by simp [mE] at h
  | .gi _, _, _, _, _, _, h => by simp [mE] at h
  | .gs _, _, _, _, _, _, h => by simp [mE] at h
  | .bin _ _ _, _, _, _, _, _, h => by simp [mE] at h
  | .neg _, _, _, _, _, _, h => by simp [mE] at h
  | .cmp _ _ _, _, _, _, _, _, h => by simp [mE] at h
  | .chain _ _ _ _ _, _, _, _, _, _, h => by simp [mE] at h
  | .not _, _, _, _, _, _, h => by simp [mE] at h
  | .ite _ _ _, _, _, _, _, _, h => by simp [mE] at h
  | .tup _, _, _, _, _, _, h => by simp [mE] at h
  | .lst _, _, _, _, _, _, h => by simp [mE] at h
  | .ix _ _, _, _, _, _, _, h => by simp [mE] at h
  | .slc _ _ _, _, _, _, _, _, h => by simp [mE] at h
  | .call _ _, _, _, _, _, _, h => by simp [mE] at h
  | .blt _ _, _, _, _, _, _, h => by simp [mE] at h
  | .isi _ _, _, _, _, _, _, h => by simp [mE] at h
  | .lsc _, _, _, _, _, _, h => by simp [mE] at h
  | .lc _ _ _ _ _, _, _, _, _, _, h => by simp [mE] at h
  | .app _ _, _, _, _, _, _, h => by simp [mE] at h
  | .ext _ _, _, _, _, _, _, h => by simp [mE] at h
  | .popAt _ _, _, _, _, _, _, h => by simp [mE] at h
  | .pop _, _, _, _, _, _, h => by simp [mE] at h
  | .mt _ _ _, _, _, _, _, _, h => by simp [mE] at h
  | .appN _ _ _, _, _, _, _, _, h => by simp [mE] at h
  | .mvix _ _, _, _, _, _, _, h => by simp [mE] at h
  | .rev _, _, _, _, _, _, h => by simp [mE] at h
  | .repC _, _, _, _, _, _, h => by simp [mE, isRep] at h
theorem sl_ev : ∀ (es : Exs) (S : Ctx) (ps : List Expr), Good T ρ S → mEs T S.scope es ps = true → SL S ps (evs ρ es)
  | .nil, S, ps, g, h => by
    cases ps with
    | nil => simp only [evs]; exact sl_nil
    | cons _ _ => simp [mEs] at h
  | .cons e es, S, ps, g, h => by
    cases ps with
    | nil => simp [mEs] at h
    | cons p ps =>
      simp only [mEs, Bool.and_eq_true] at h
      simp only [evs]; exact sl_cons (sv_ev e S p g h.1.1).d (sl_ev es S ps g h.2) h.1.2
theorem so_ev : ∀ (es : Exs) (S : Ctx) (ps : List Expr), Good T ρ S → mEs T S.scope es ps = true → SO S ps (evO ρ es)
  | .nil, S, ps, g, h => by
    cases ps with
    | nil => simp only [evO]; exact so_nil
    | cons _ _ => simp [mEs] at h
  | .cons e es, S, ps, g, h => by
    cases ps with
    | nil => simp [mEs] at h
    | cons p ps =>
      simp only [mEs, Bool.and_eq_true] at h
      simp only [evO]; exact so_cons (sv_ev e S p g h.1.1) (so_ev es S ps g h.2) h.1.2
theorem sa_ev : ∀ (as : Args) (S : Ctx) (ps : List Expr), Good T ρ S → mA T S.scope as ps = true → SAr S ps (evA ρ as)
  | .nil, S, ps, g, h => by
    cases ps with
    | nil => simp only [evA]; exact sar_nil
    | cons _ _ => simp [mA] at h
  | .e a r, S, ps, g, h => by
    cases ps with
    | nil => simp [mA] at h
    | cons p ps =>
      simp only [mA, Bool.and_eq_true] at h
      simp only [evA]; exact sar_e (sv_ev a S p g h.1.1).d (sa_ev r S ps g h.2) h.1.2
  | .o i r, S, ps, g, h => by
    cases ps with
    | nil => simp [mA] at h
    | cons p ps =>
      cases p with
      | Name x pos =>
        simp only [mA, Bool.and_eq_true] at h
        simp only [evA]; exact sar_o (okVar_ok g h.1) (sa_ev r S ps g h.2)
      | _ => simp [mA] at h
theorem sp_ev : ∀ (o : Opt) (S : Ctx) (p : Option Expr), Good T ρ S → mO T S.scope o p = true → SP' S p (evP ρ o)
  | .no, S, p, g, h => by
    cases p with
    | none => simp only [evP]; exact sp_none
    | some _ => simp [mO] at h
  | .yes e, S, p, g, h => by
    cases p with
    | none => simp [mO] at h
    | some p => simp only [mO] at h; simp only [evP]; exact sp_some (sv_ev e S p g h).d
theorem sc_ev : ∀ (o : Opt) (S : Ctx) (ps : List Expr), Good T ρ S → mC T S.scope o ps = true → STs S ps (evC ρ o)
  | .no, S, ps, g, h => by
    cases ps with
    | nil => simp only [evC]; exact sts_nil
    | cons _ _ => simp [mC] at h
  | .yes e, S, ps, g, h => by
    match ps, h with
    | [p], h => simp only [mC] at h; simp only [evC]; exact sts_one (sb_ev e S p g h)
    | [], h => simp [mC] at h
    | _ :: _ :: _, h => simp [mC] at h
theorem si_ev : ∀ (it : Itr') (S : Ctx) (tg p : Expr), Good T ρ S → mI T S.scope it p = true → mTg it tg = true → SIt S tg p (evI ρ it)
  | .rg i, S, tg, p, g, h, ht => by
    cases p with
    | Name x p2 => simp only [mI] at h; simp only [evI]; exact si_rgv (okVar_ok g h)
    | _ => simp [mI] at h
  | .e a, S, tg, p, g, h, ht => by simp only [mI] at h; simp only [evI]; exact si_e (sv_ev a S p g h).d
  | .r1 a, S, tg, p, g, h, ht => by
    cases p with
    | Call fn ps ks pos =>
      cases fn with
      | Name x p2 =>
        match ps, ks, h with
        | [p], [], h =>
          simp only [mI, Bool.and_eq_true, beq_iff_eq] at h
          obtain ⟨⟨⟨rfl, h1⟩, h2⟩, h3⟩ := h
          simp only [evI]; exact si_rng1 (okBl_ok g h1) (sv_ev a S p g h2).d h3
        | [], _, h => simp [mI] at h
        | _ :: _ :: _, _, h => simp [mI] at h
        | [_], _ :: _, h => simp [mI] at h
      | _ => simp [mI] at h
    | _ => simp [mI] at h
  | .r2 a b, S, tg, p, g, h, ht => by
    cases p with
    | Call fn ps ks pos =>
      cases fn with
      | Name x p2 =>
        match ps, ks, h with
        | [p, q], [], h =>
          simp only [mI, Bool.and_eq_true, beq_iff_eq] at h
          obtain ⟨⟨⟨⟨⟨rfl, h1⟩, h2⟩, h3⟩, h4⟩, h5⟩ := h
          simp only [evI]; exact si_rng2 (okBl_ok g h1) (sv_ev a S p g h2).d (sv_ev b S q g h3).d h4 h5
        | [], _, h => simp [mI] at h
        | [_], _, h => simp [mI] at h
        | _ :: _ :: _ :: _, _, h => simp [mI] at h
        | [_, _], _ :: _, h => simp [mI] at h
      | _ => simp [mI] at h
    | _ => simp [mI] at h
  | .en a, S, tg, p, g, h, ht => by
    cases tg with
    | Tuple es k tp =>
      cases p with
      | Call fn ps ks pos =>
        cases fn with
        | Name x p2 =>
          match ps, ks, h with
          | [p], [], h =>
            simp only [mI, Bool.and_eq_true, beq_iff_eq] at h
            obtain ⟨⟨⟨rfl, h1⟩, h2⟩, h3⟩ := h
            simp only [evI]; exact si_enum (okBl_ok g h1) (sv_ev a S p g h2).d h3
          | [], _, h => simp [mI] at h
          | _ :: _ :: _, _, h => simp [mI] at h
          | [_], _ :: _, h => simp [mI] at h
        | _ => simp [mI] at h
      | _ => simp [mI] at h
    | _ => cases ht
  | .rv a, S, tg, p, g, h, ht => by
    cases p with
    | Call fn ps ks pos =>
      cases fn with
      | Name x p2 =>
        match ps, ks, h with
        | [p], [], h =>
          simp only [mI, Bool.and_eq_true, beq_iff_eq] at h
          obtain ⟨⟨⟨rfl, h1⟩, h2⟩, h3⟩ := h
          simp only [evI]; exact si_rev (okBl_ok g h1) (sv_ev a S p g h2).d h3
        | [], _, h => simp [mI] at h
        | _ :: _ :: _, _, h => simp [mI] at h
        | [_], _ :: _, h => simp [mI] at h
      | _ => simp [mI] at h
    | _ => simp [mI] at h
  | .zp a b, S, tg, p, g, h, ht => by
    cases tg with
    | Tuple es k tp =>
      cases p with
      | Call fn ps ks pos =>
        cases fn with
        | Name x p2 =>
          match ps, ks, h with
          | [p, q], [], h =>
            simp only [mI, Bool.and_eq_true, beq_iff_eq] at h
            obtain ⟨⟨⟨⟨⟨rfl, h1⟩, h2⟩, h3⟩, h4⟩, h5⟩ := h
            simp only [evI]; exact si_zip (okBl_ok g h1) (sv_ev a S p g h2).d (sv_ev b S q g h3).d h4 h5
          | [], _, h => simp [mI] at h
          | [_], _, h => simp [mI] at h
          | _ :: _ :: _ :: _, _, h => simp [mI] at h
          | [_, _], _ :: _, h => simp [mI] at h
        | _ => simp [mI] at h
      | _ => simp [mI] at h
    | _ => cases ht
end
theorem mS_two {T : Tab} {sc : Scope} {fn : Str → Bool} {i : Nat} {e : Ex'} {a b : Expr} {c : List Expr} {v : Expr} {pos : Pos} (h : mS T sc fn (.asg i e) (.Assign (a :: b :: c) v pos) = true) : False := by
  have : mS T sc fn (.asg i e) (.Assign (a :: b :: c) v pos) = false := by cases a <;> rfl
  rw [this] at h; cases h
theorem mS_two' {T : Tab} {sc : Scope} {fn : Str → Bool} {i : Nat} {j e : Ex'} {a b : Expr} {c : List Expr} {v : Expr} {pos : Pos} (h : mS T sc fn (.set i j e) (.Assign (a :: b :: c) v pos) = true) : False := by
  have : mS T sc fn (.set i j e) (.Assign (a :: b :: c) v pos) = false := by
    cases a with
    | Subscript o _ _ => cases o <;> rfl
    | _ => rfl
  rw [this] at h; cases h
mutual
theorem ss_ev : ∀ (s : St') (S : Ctx) (own : List Nat) (p : Stmt), Good T ρ S → S.scope.kind = .function ∧ S.top = true → mS T S.scope S.fn s p = true → SS S own p (exS ρ own s)
  | .pass, S, own, p, g, hk, h => by
    cases p with
    | Pass pos => simp only [exS]; exact ss_pass
    | _ => simp [mS] at h
  | .asg i e, S, own, p, g, hk, h => by
    cases p with
    | Assign ts v pos =>
      match ts, h with
      | [t], h =>
        cases t with
        | Name x p2 =>
          simp only [mS, Bool.and_eq_true] at h
          obtain ⟨⟨h1, h2⟩, h3⟩ := h
          simp only [exS]
          by_cases hc : notComp v = true
          · exact ss_asg (okSto_ok g h1) (sv_ev e S v g h2) hc
          · cases v with
            | ListComp elt gs scope p3 =>
              match gs, h2, h3 with
              | [⟨g1, t, ifs, isA⟩], h2, h3 =>
                cases e with
                | lc elt' tg it c vs =>
                  simp only [mE, Bool.and_eq_true, beq_iff_eq] at h2
                  obtain ⟨⟨⟨⟨⟨⟨⟨rfl, a1⟩, a2⟩, a3⟩, a4⟩, a5⟩, a6⟩, a7⟩ := h2
                  have gb := g.blk scope
                  have ok : BlkOk S.N S.scope scope (ownOf T vs) := by rw [g.N]; exact blkOk_by a1
                  have hj : ∀ j, j ∈ tg.js → j ∈ (ownOf T vs).map (·.2) := fun j hj => by
                    rw [ownOf_snd]
                    exact List.contains_iff_mem.mp (List.all_eq_true.mp a5 j hj)
                  have := ss_asgC (own := own) (py := p2) (p2 := p3) (spos := pos) (okSto_ok g h1) hk.1 (si_ev it S g1 t g a2.1 a2.2) (by rw [g.N]; exact g.nd) ok hj (mG_ok gb a4) (sc_ev c (S.blk scope) ifs gb a6) (sv_ev elt' (S.blk scope) elt gb a7) a3
                  rw [ownOf_snd] at this
                  simp only [ev]; exact this
                | _ => exact absurd h3 (by simp [notComp])
              | [], _, h3 => exact absurd h3 (by simp [notComp])
              | _ :: _ :: _, _, h3 => exact absurd h3 (by simp [notComp])
            | _ => first | exact absurd rfl hc | exact absurd h3 (by simp [notComp])
        | _ => simp [mS] at h
      | [], h => simp [mS] at h
      | _ :: _ :: _, h => exact (mS_two h).elim
    | _ => simp [mS] at h
  | .expr e, S, own, p, g, hk, h => by
    cases p with
    | Expr v pos =>
      simp only [mS, Bool.and_eq_true] at h
      simp only [exS]; exact ss_expr (sv_ev e S v g h.1) h.2
    | _ => simp [mS] at h
  | .ret e, S, own, p, g, hk, h => by
    cases p with
    | Return v pos =>
      cases v with
      | some v => simp only [mS] at h; simp only [exS]; exact ss_ret (sv_ev e S v g h)
      | none => simp [mS] at h
    | _ => simp [mS] at h
  | .retN, S, own, p, g, hk, h => by
    cases p with
    | Return v pos =>
      cases v with
      | none => simp only [exS]; exact ss_retN
      | some v => simp [mS] at h
    | _ => simp [mS] at h
  | .iff c a b, S, own, p, g, hk, h => by
    cases p with
    | If t x y pos =>
      simp only [mS, Bool.and_eq_true] at h
      simp only [exS]; exact ss_if (sb_ev c S t g h.1.1) (sss_ev a S own x g hk h.1.2) (sss_ev b S own y g hk h.2)
    | _ => simp [mS] at h
  | .forr tg it b, S, own, p, g, hk, h => by
    cases p with
    | For t i x oe pos =>
      cases oe with
      | nil =>
        simp only [mS, Bool.and_eq_true] at h
        obtain ⟨⟨⟨h1, h2⟩, h3⟩, h4⟩ := h
        simp only [exS]; exact ss_for (si_ev it S t i g h2.1 h2.2) (mG_ok g h1) (sss_ev b S own x g hk h4) h3
      | cons _ _ => simp [mS] at h
    | _ => simp [mS] at h
  | .whl n c b, S, own, p, g, hk, h => by
    cases p with
    | While t x oe pos =>
      cases oe with
      | nil =>
        simp only [mS, Bool.and_eq_true] at h
        simp only [exS]; exact ss_while (sb_ev c S t g h.1) (sss_ev b S own x g hk h.2)
      | cons _ _ => simp [mS] at h
    | _ => simp [mS] at h
  | .set j i e, S, own, p, g, hk, h => by
    cases p with
    | Assign ts v pos =>
      match ts, h with
      | [t], h =>
        cases t with
        | Subscript o q p2 =>
          cases o with
          | Name x p3 =>
            simp only [mS, Bool.and_eq_true] at h
            obtain ⟨⟨⟨h1, h2⟩, h3⟩, h4⟩ := h
            simp only [exS]; exact ss_set (okVar_ok g h1) (sv_ev i S q g h2).d (sv_ev e S v g h3).d (notSl_of h4)
          | _ => simp [mS] at h
        | _ => simp [mS] at h
      | [], h => simp [mS] at h
      | _ :: _ :: _, h => exact (mS_two' h).elim
    | _ => simp [mS] at h
  | .augS j op i e, S, own, p, g, hk, h => by
    cases p with
    | AugAssign t o v pos =>
      cases t with
      | Subscript ob q p2 =>
        cases ob with
        | Name x p3 =>
          simp only [mS, Bool.and_eq_true, beq_iff_eq] at h
          obtain ⟨⟨⟨⟨h1, rfl⟩, h2⟩, h3⟩, h4⟩ := h
          simp only [exS]; exact ss_augS (okVar_ok g h1) (sv_ev i S q g h2).d (sv_ev e S v g h3).d (notSl_of h4)
        | _ => simp [mS] at h
      | _ => simp [mS] at h
    | _ => simp [mS] at h
  | .aug i op e, S, own, p, g, hk, h => by
    cases p with
    | AugAssign t o v pos =>
      cases t with
      | Name x p3 =>
        simp only [mS, Bool.and_eq_true, beq_iff_eq] at h
        obtain ⟨⟨h1, rfl⟩, h3⟩ := h
        simp only [exS]; exact ss_aug (okSto_ok g h1) (sv_ev e S v g h3).d
      | _ => simp [mS] at h
    | _ => simp [mS] at h
  | .asgT is e, S, own, p, g, hk, h => by
    cases p with
    | Assign ts v pos =>
      match ts, h with
      | [t], h =>
        cases t with
        | Tuple es k tp =>
          have h : (mTs T S.scope S.fn is es && mE T S.scope e v && notComp v && notTupE v) = true := by simpa only [mS] using h
          simp only [Bool.and_eq_true] at h
          obtain ⟨⟨⟨h1, h2⟩, h3⟩, h4⟩ := h
          simp only [exS]; exact ss_asgT (mG_ok (t := .tp is) g h1) (sv_ev e S v g h2).d h3 h4
        | _ => simp [mS] at h
      | [], h => simp [mS] at h
      | a :: b :: c, h => exact (by cases a <;> rfl : mS T S.scope S.fn (.asgT is e) (.Assign (a :: b :: c) v pos) = false) ▸ h |> fun z => by cases z
    | _ => simp [mS] at h
  | .bws vs ks keep s, S, own, p, g, hk, h => by
    have h : mS T S.scope S.fn s p = true := by simpa only [mS] using h
    simp only [exS]
    by_cases hc : own.all keep.contains = true
    · rw [if_pos hc]; exact ss_bws vs ks keep hc (ss_ev s S keep p g hk h)
    · rw [if_neg hc]; exact fun σ env Z H F I D w => absurd rfl w.nb
  | .rais c x fld e, S, own, p, g, hk, h => by
    cases p with
    | Raise ex cs pos =>
      cases ex with
      | some ex =>
        cases cs with
        | none =>
          cases ex with
          | Call fn ps ks p1 =>
            cases fn with
            | Name y p2 =>
              match ps, ks, h with
              | [q], [], h =>
                simp only [mS, Bool.and_eq_true, beq_iff_eq] at h
                obtain ⟨⟨⟨⟨rfl, h1⟩, h2⟩, h3⟩, h4⟩ := h
                obtain ⟨g1, g2⟩ := okGl_ok h1
                obtain ⟨C, fI, fd, x1, x2, x3, x4, x5⟩ := g.ex c x fld h2
                simp only [exS]; exact ss_raise x1 x2 x3 x4 g1 g2 (sv_ev e S q g h3).d h4 x5
              | [], _, h => simp [mS] at h
              | _ :: _ :: _, _, h => simp [mS] at h
              | [_], _ :: _, h => simp [mS] at h
            | _ => simp [mS] at h
          | _ => simp [mS] at h
        | some _ => simp [mS] at h
      | none => simp [mS] at h
    | _ => simp [mS] at h
  | .tryx b i E hh, S, own, p, g, hk, h => by
    cases p with
    | Try body hds oe fin pos =>
      match hds, oe, fin, h with
      | [hd], [], [], h =>
        cases hd with
        | ExceptHandler ty nm suite hp =>
          cases ty with
          | some ty =>
            cases ty with
            | Name y np =>
              cases nm with
              | some n =>
                cases suite with
                | cons b0 suite =>
                  simp only [mS, Bool.and_eq_true, beq_iff_eq] at h
                  obtain ⟨⟨⟨⟨⟨⟨⟨h1, rfl⟩, h2⟩, h3⟩, h4, h5⟩, h6⟩, h7⟩, h8⟩ := h
                  obtain ⟨g1, g2⟩ := okGl_ok h2
                  obtain ⟨C, Cx0, O⟩ := g.hs E h3
                  obtain ⟨i1, _⟩ := glOk_ok h7
                  have loc : S.scope.names.lookup n = some .local := by
                    split at h5
                    · assumption
                    · cases h5
                  simp only [exS]
                  exact ss_try (C := C) (fld := E.fld) (n := n) (fun W => sss_ev b { S with W := W } own body (g.wish W) hk h1) (by rw [g.N]; exact h4) loc (by rw [g.N]; exact g.nd) hk.2 g1 g2 O.mg O.exm O.back fun a dd v ds hv => hs_ok O (okVar_ok g h6) (.inr trivial) i1 h8 hv
                | nil => simp [mS] at h
              | none => simp [mS] at h
            | _ => simp [mS] at h
          | none => simp [mS] at h
      | [], _, _, h => simp [mS] at h
      | _ :: _ :: _, _, _, h => simp [mS] at h
      | [_], _ :: _, _, h => simp [mS] at h
      | [_], [], _ :: _, h => simp [mS] at h
    | _ => simp [mS] at h
theorem sss_ev : ∀ (s : Sts) (S : Ctx) (own : List Nat) (ps : List Stmt), Good T ρ S → S.scope.kind = .function ∧ S.top = true → mSs T S.scope S.fn s ps = true → SSs S own ps (exs ρ own s)
  | .nil, S, own, ps, g, hk, h => by
    cases ps with
    | nil => simp only [exs]; exact sss_nil
    | cons _ _ => simp [mSs] at h
  | .cons s r, S, own, ps, g, hk, h => by
    cases ps with
    | nil => simp [mSs] at h
    | cons p ps =>
      simp only [mSs, Bool.and_eq_true] at h
      simp only [exs]; exact sss_cons (ss_ev s S own p g hk h.1) (sss_ev r S own ps g hk h.2)
end
end
end Vi

set_option Elab.async false
set_option linter.all false
set_option maxRecDepth 100000
namespace Vi
open PySem L2
section
/-- a def of the module stands at level k and is worth den -/
def FnM (P : Program) (w : World) (K : PySem.W.Frag) (mg : Str → Option Value) (base : Heap) (exr : Exn → Value → Option Addr → Hp → Prop) (k : Nat) (x : Str) (np : Nat) (den : Den) : Prop :=
  ∃ (f : Addr) (fd : FuncData) (ps : List Str), mg x = some (.ref f) ∧ PySem.W.keepIn K (.ref f) = true ∧ Binds K fd ps [] ∧ ps.length = np ∧ FnOk P w K mg base (L2N.CX P w) k f fd ps (spOf K exr np den)
def FsOk (P : Program) (w : World) (K : PySem.W.Frag) (mg : Str → Option Value) (base : Heap) (exr : Exn → Value → Option Addr → Hp → Prop) (k : Nat) : List (Str × Nat) → Rho → Prop
  | [], _ => True
  | (x, n) :: r, ρ => (∃ kk, kk ≤ k ∧ FnM P w K mg base exr kk x n (ρ 0)) ∧ FsOk P w K mg base exr k r fun i => ρ (i + 1)
def BlOk (mg : Str → Option Value) : List Str → Prop
  | [] => True
  | x :: r => mg x = none ∧ BlOk mg r
def CiOk (mg : Str → Option Value) : List (Str × Int) → Prop
  | [] => True
  | (x, i) :: r => (∃ t, mg x = some (.int i t)) ∧ CiOk mg r
def CsOk (mg : Str → Option Value) : List (Str × Str) → Prop
  | [] => True
  | (x, i) :: r => (∃ t, mg x = some (.str i t)) ∧ CsOk mg r
variable {P : Program} {w : World} {K : PySem.W.Frag} {mg : Str → Option Value} {base : Heap} {exr : Exn → Value → Option Addr → Hp → Prop}
theorem FsOk.at_ {k : Nat} : ∀ {l : List (Str × Nat)} {ρ : Rho}, FsOk P w K mg base exr k l ρ → ∀ f x n, l[f]? = some (x, n) → ∃ kk, kk ≤ k ∧ FnM P w K mg base exr kk x n (ρ f)
  | (y, m) :: r, ρ, h, 0, x, n, e => by
    have e : (y, m) = (x, n) := by simpa using e
    cases e; exact h.1
  | (y, m) :: r, ρ, h, f + 1, x, n, e => FsOk.at_ (ρ := fun i => ρ (i + 1)) h.2 f x n (by simpa using e)
  | [], _, _, f, x, n, e => by simp at e
theorem BlOk.at_ : ∀ {l : List Str}, BlOk mg l → ∀ x, l.contains x = true → mg x = none
  | y :: r, h, x, e => by
    rw [List.contains_cons, Bool.or_eq_true] at e
    rcases e with e | e
    · rw [beq_iff_eq] at e; subst e; exact h.1
    · exact BlOk.at_ h.2 x e
  | [], _, x, e => by simp at e
theorem CiOk.at_ : ∀ {l : List (Str × Int)}, CiOk mg l → ∀ x i, l.contains (x, i) = true → ∃ t, mg x = some (.int i t)
  | (y, j) :: r, h, x, i, e => by
    rw [List.contains_cons, Bool.or_eq_true] at e
    rcases e with e | e
    · rw [beq_iff_eq] at e; cases e; exact h.1
    · exact CiOk.at_ h.2 x i e
  | [], _, x, i, e => by simp at e
theorem CsOk.at_ : ∀ {l : List (Str × Str)}, CsOk mg l → ∀ x i, l.contains (x, i) = true → ∃ t, mg x = some (.str i t)
  | (y, j) :: r, h, x, i, e => by
    rw [List.contains_cons, Bool.or_eq_true] at e
    rcases e with e | e
    · rw [beq_iff_eq] at e; cases e; exact h.1
    · exact CsOk.at_ h.2 x i e
  | [], _, x, i, e => by simp at e
/-- a context that stands for all of the module's -/
def ctx0 (P : Program) (w : World) (K : PySem.W.Frag) (mg : Str → Option Value) (base : Heap) (exr : Exn → Value → Option Addr → Hp → Prop) (k : Nat) : Ctx := ⟨P, w, K, mg, base, [], default, fun _ => true, k, fun _ _ _ _ => False, true, exr⟩
def ExOk (P : Program) (w : World) (K : PySem.W.Frag) (mg : Str → Option Value) (base : Heap) (exr : Exn → Value → Option Addr → Hp → Prop) (k : Nat) : List (Nat × Str × Str) → Prop
  | [] => True
  | (c, x, fld) :: r => (∃ (C fI : Addr) (fd : FuncData), ECls K mg x fld C fI ∧ FnOk P w K mg base CX0 1 fI fd ["self", fld] (spInit K C fld) ∧ Binds K fd ["self", fld] [] ∧ 2 ≤ k ∧
    ∀ (v : PyData) (u : V) (dx : Addr) (H' : Hp), Rp H' u v → closedD v = true → H' dx = some (.xd [(fld, u)]) → exr ⟨c, some v⟩ (.ref C) (some dx) H') ∧ ExOk P w K mg base exr k r
def HsOk (P : Program) (w : World) (K : PySem.W.Frag) (mg : Str → Option Value) (base : Heap) (exr : Exn → Value → Option Addr → Hp → Prop) (k : Nat) : List HEnt → Prop
  | [] => True
  | E :: r => (∃ C Cx0, HOk (ctx0 P w K mg base exr k) E C Cx0) ∧ HsOk P w K mg base exr k r
theorem ExOk.at_ {k : Nat} : ∀ {l : List (Nat × Str × Str)}, ExOk P w K mg base exr k l → ∀ c x fld, l.contains (c, x, fld) = true → ∃ (C fI : Addr) (fd : FuncData), ECls K mg x fld C fI ∧ FnOk P w K mg base CX0 1 fI fd ["self", fld] (spInit K C fld) ∧ Binds K fd ["self", fld] [] ∧ 2 ≤ k ∧
    ∀ (v : PyData) (u : V) (dx : Addr) (H' : Hp), Rp H' u v → closedD v = true → H' dx = some (.xd [(fld, u)]) → exr ⟨c, some v⟩ (.ref C) (some dx) H'
  | (c', x', f') :: r, h, c, x, fld, e => by
    rw [List.contains_cons, Bool.or_eq_true] at e
    rcases e with e | e
    · rw [beq_iff_eq] at e; cases e; exact h.1
    · exact ExOk.at_ h.2 c x fld e
  | [], _, c, x, fld, e => by simp at e
theorem HsOk.at_ {k : Nat} : ∀ {l : List HEnt}, HsOk P w K mg base exr k l → ∀ E, l.contains E = true → ∃ C Cx0, HOk (ctx0 P w K mg base exr k) E C Cx0
  | E' :: r, h, E, e => by
    rw [List.contains_cons, Bool.or_eq_true] at e
    rcases e with e | e
    · rw [beq_iff_eq] at e; subst e; exact h.1
    · exact HsOk.at_ h.2 E e
  | [], _, E, e => by simp at e
theorem good_of {T : Tab} {ρ : Rho} {scope : Scope} {k : Nat} {E : XK} (nd : T.N.Nodup) (fs : FsOk P w K mg base exr k T.fs ρ) (bl : BlOk mg T.bl) (ci : CiOk mg T.ci) (cs : CsOk mg T.cs) (xs : ExOk P w K mg base exr k T.ex) (hs : HsOk P w K mg base exr k T.hs) : Good T ρ (ctxOf P w K mg base exr T.N scope k E) where
  N := rfl
  nd := nd
  fs := fun f x n h => by
    obtain ⟨kk, hk, f', fd, ps, a1, a2, a3, a4, a5⟩ := fs.at_ f x n h
    exact ⟨f', fd, ps, kk, a1, a2, a3, a4, hk, a5⟩
  bl := fun x h => bl.at_ x h
  ci := fun x i h => ci.at_ x i h
  cs := fun x i h => cs.at_ x i h
  ex := fun c x fld h => xs.at_ c x fld h
  hs := fun E h => by
    obtain ⟨C, Cx0, O⟩ := hs.at_ E h
    exact ⟨C, Cx0, O.to rfl rfl rfl rfl rfl rfl rfl⟩
theorem def_ok {x : Str} {st : Stmt} {f : Addr} {fd : FuncData} {T : Tab} {ps : List Str} {k : Nat} {own : List Nat} {body : Sts} {ρ : Rho} (Fn : Fun K x x st f fd) (Sc : FnScope T.N ps (defScope st)) (hm : mSs T (defScope st) (fun _ => true) body (defBody st) = true)
    (fs : FsOk P w K mg base exr k T.fs ρ) (bl : BlOk mg T.bl) (ci : CiOk mg T.ci) (cs : CsOk mg T.cs) (xs : ExOk P w K mg base exr k T.ex) (hs : HsOk P w K mg base exr k T.hs) : FnOk P w K mg base (L2N.CX P w) (k + 1) f fd ps (spOf K exr ps.length (runB ps.length T.N.length own (exs ρ own body))) :=
  fn_ok Fn Sc rfl fun E => sss_ev body _ own _ (good_of Sc.nd fs bl ci cs xs hs) ⟨Sc.kind, rfl⟩ hm
theorem def_m {x : Str} {st : Stmt} {f : Addr} {fd : FuncData} {T : Tab} {ps : List Str} {k : Nat} {own : List Nat} {body : Sts} {ρ : Rho} (Fn : Fun K x x st f fd) (hg : mg x = some (.ref f)) (hb : Binds K fd ps []) (Sc : FnScope T.N ps (defScope st)) (hm : mSs T (defScope st) (fun _ => true) body (defBody st) = true)
    (fs : FsOk P w K mg base exr k T.fs ρ) (bl : BlOk mg T.bl) (ci : CiOk mg T.ci) (cs : CsOk mg T.cs) (xs : ExOk P w K mg base exr k T.ex) (hs : HsOk P w K mg base exr k T.hs) : FnM P w K mg base exr (k + 1) x ps.length (runB ps.length T.N.length own (exs ρ own body)) :=
  ⟨f, fd, ps, hg, Fn.kp, hb, rfl, def_ok Fn Sc hm fs bl ci cs xs hs⟩
/-- the law's own promise -/
def spLaw (K : PySem.W.Frag) (exr : Exn → Value → Option Addr → Hp → Prop) (den : Den) : Sp := spOf K exr 1 den
theorem law_sp {den : Den} (hden : ∀ ns : List Int, ns.length ≤ 63 → ∃ outs, den [.sc ns] = .ok (.fz (.bool true)) outs) (H : Hp) (a : Addr) (ns : List Int) (hl : ns.length ≤ 63) (hS : SqL K H a (ns.map V.int)) :
    spOf K exr 1 den [.ref a] H (fun v _ => v = .bl true) fun _ _ _ => False := by
  obtain ⟨outs, hd⟩ := hden ns hl
  refine ⟨rfl, H, [.sc ns], fun _ => [], ⟨rfl, fun b o e => e, fun i x e => ?_, fun _ _ => rfl, fun _ _ _ _ z => nomatch z⟩, fun r o q v Z' H' F' G I' o' s' => ?_, fun x o q => ?_, fun q => ?_⟩
  · cases i with
    | zero =>
      have e : OV.sc ns = x := by simpa using e
      subst e
      exact ⟨.ref a, rfl, .sc hS⟩
    | succ i => simp at e
  · rw [hd] at q
    cases q
    cases o' with
    | fz r => cases r; rfl
  · rw [hd] at q; cases q
  · rw [hd] at q; cases q
end
end Vi

set_option Elab.async false
set_option linter.all false
set_option maxRecDepth 100000
set_option maxHeartbeats 4000000
namespace Vi
open PySem L2
/-! ### return isinstance(a, int) and (not isinstance(a, bool)), called in a suite -/
def isWhole (a : Str) : List Stmt → Bool
  | [.Return (some (.BoolOp .And [.Call (.Name f1 _) [.Name a1 _, .Name t1 _] [] _, .UnaryOp .Not (.Call (.Name f2 _) [.Name a2 _, .Name t2 _] [] _) _] _)) _] =>
    f1 == ("isinstance" : Str) && f2 == ("isinstance" : Str) && a1 == a && a2 == a && t1 == ("int" : Str) && t2 == ("bool" : Str)
  | _ => false
section
variable {P : Program} {w : World} {K : PySem.W.Frag} {mg : Str → Option Value} {base : Heap}
def b1 : PyData → Bool
  | .int _ => true
  | .bool _ => true
  | _ => false
def b2 : PyData → Bool
  | .bool _ => true
  | _ => false
theorem isi_read {H : Hp} {u : V} {d : PyData} (r : Rp H u d) (hc : closedD d = true) : (∃ t, TyX K H u t ∧ PySem.W.kitOne K t (.type "int") = some (b1 d)) ∧ ∃ t, TyX K H u t ∧ PySem.W.kitOne K t (.type "bool") = some (b2 d) := by
  cases r with
  | non => exact ⟨⟨.type "NoneType", .base .non, kit_ty (by decide +kernel)⟩, .type "NoneType", .base .non, kit_ty (by decide +kernel)⟩
  | bl c => exact ⟨⟨.type "bool", .base (.bl c), kit_ty (by simp only [b1, b2]; decide +kernel)⟩, .type "bool", .base (.bl c), kit_ty (by simp only [b1, b2]; decide +kernel)⟩
  | int c => exact ⟨⟨.type "int", .base (.int c), kit_ty (by simp only [b1, b2]; decide +kernel)⟩, .type "int", .base (.int c), kit_ty (by simp only [b1, b2]; decide +kernel)⟩
  | str c _ => exact ⟨⟨.type "str", .base (.str c), kit_ty (by simp only [b1, b2]; decide +kernel)⟩, .type "str", .base (.str c), kit_ty (by simp only [b1, b2]; decide +kernel)⟩
  | lst _ _ _ => cases hc
  | tup _ _ _ => cases hc
theorem hot_ok {x : Str} {a : Str} {st : Stmt} {f : Addr} {fd : FuncData} (Fn : Fun K x x st f fd) (Sc : FnScope [a] [a] (defScope st)) (hb : isWhole a (defBody st) = true) (d1 : (a == ("__debug__" : Str)) = false) (d2 : (a == ("__classdict__" : Str)) = false)
    (g1 : (defScope st).names.lookup ("isinstance" : Str) = some .globalImplicit) (g2 : (defScope st).names.lookup ("int" : Str) = some .globalImplicit) (g3 : (defScope st).names.lookup ("bool" : Str) = some .globalImplicit)
    (m1 : mg ("isinstance" : Str) = none) (m2 : mg ("int" : Str) = none) (m3 : mg ("bool" : Str) = none) : L2H.FnH P w K mg base CX0 1 f fd [a] (spHot wholeD) := by
  obtain ⟨oc, od, kV, doc, pm, an, cdv, ct, osl, rfl, lk, hcd⟩ := Fn.ex
  refine L2H.fn_ofH lk hcd Sc (fun vs H Q E ⟨u, d, b, e, _⟩ => by rw [e]; rfl) fun A outer s H vs Q E p hot hr hsp => ?_
  obtain ⟨u, d, b, rfl, ru, hc, ha, hQ⟩ := hsp
  have vis : Vis (defScope st) a := (Sc.par a (by simp)).elim .inl fun z => .inr (.inl z)
  unfold isWhole at hb
  split at hb
  · rename_i f1 p1 a1 p2 t1 p3 p4 f2 p5 a2 p6 t2 p7 p8 p9 p10 p11 hst
    simp only [Bool.and_eq_true, beq_iff_eq] at hb
    obtain ⟨⟨⟨⟨⟨rfl, rfl⟩, rfl⟩, rfl⟩, rfl⟩, rfl⟩ := hb
    rw [hst]
    obtain ⟨⟨ty1, k1, k2⟩, ty2, k3, k4⟩ := isi_read (K := K) ru hc
    refine ⟨_, pss_one (ps_ret (pe_and
      (pe_callB call_isi (by exact g1) (by exact m1) (by decide +kernel) (pa_cons (pe_var (i := 0) rfl vis d1 d2) (pa_cons (pe_bltn (v := .ty "int") (u := .type "int") (by exact g2) (by exact m2) (by decide +kernel) rfl (by decide +kernel) (by decide +kernel)) pa_nil (star_cons rfl)) (star_cons rfl)) (by decide +kernel) (by decide +kernel) (star_cons rfl) rfl)
      (pe_one (pe_not (pe_callB call_isi (by exact g1) (by exact m1) (by decide +kernel) (pa_cons (pe_var (i := 0) rfl vis d1 d2) (pa_cons (pe_bltn (v := .ty "bool") (u := .type "bool") (by exact g3) (by exact m3) (by decide +kernel) rfl (by decide +kernel) (by decide +kernel)) pa_nil (star_cons rfl)) (star_cons rfl)) (by decide +kernel) (by decide +kernel) (star_cons rfl) rfl))))), ?_⟩
    refine ⟨u, rfl, u, _, ty1, _, b1 d, rfl, .ty _, k1, k2, b1 d, rfl, ?_⟩
    have eb : b = (b1 d && !b2 d) := by
      cases d <;> first | (cases ha; rfl) | (cases hc)
    cases h1 : b1 d with
    | true =>
      refine iteT ⟨u, rfl, u, _, ty2, _, b2 d, rfl, .ty _, k3, k4, b2 d, rfl, ?_⟩
      rw [h1] at eb
      have : b = !b2 d := by simpa using eb
      rw [← this]; exact hQ
    | false =>
      rw [h1] at eb
      have : b = false := by simpa using eb
      subst this
      exact iteF hQ
  · cases hb
end
end Vi

set_option Elab.async false
set_option linter.all false
set_option maxRecDepth 100000
namespace Vi
open PySem PySem.Spec PyProof.Rows L2
/-! ### the law's end, and the module's error classes -/
def exrOf (ca : Nat → Addr) (fl : Nat → Str) : Exn → Value → Option Addr → Hp → Prop := fun xx cls d H => ∃ v dd w, xx.a = some v ∧ cls = .ref (ca xx.c) ∧ d = some dd ∧ H dd = some (.xd [(fl xx.c, w)]) ∧ Rp H w v
theorem exr_back {ca : Nat → Addr} {fl : Nat → Str} {xx : Exn} {cls : Value} {d : Option Addr} {H : Hp} {c : Nat} {C : Addr} {fld : Str} (h : exrOf ca fl xx cls d H) (hc : xx.c = c) (e1 : ca c = C) (e2 : fl c = fld) :
    ∃ v dd w, xx.a = some v ∧ cls = .ref C ∧ d = some dd ∧ H dd = some (.xd [(fld, w)]) ∧ Rp H w v := by
  subst hc e1 e2; exact h
theorem exr_fore {ca : Nat → Addr} {fl : Nat → Str} {c : Nat} {C : Addr} {fld : Str} (e1 : ca c = C) (e2 : fl c = fld) : ∀ (v : PyData) (u : V) (dx : Addr) (H' : Hp), Rp H' u v → closedD v = true → H' dx = some (.xd [(fld, u)]) → exrOf ca fl ⟨c, some v⟩ (.ref C) (some dx) H' := fun v u dx H' r _ h => by
  subst e1 e2; exact ⟨v, dx, u, rfl, rfl, rfl, h, r⟩
section
variable {P : Program} {w : World} {K : PySem.W.Frag} {mg : Str → Option Value} {base : Heap} {exr : Exn → Value → Option Addr → Hp → Prop}
def spTrue (K : PySem.W.Frag) : Sp := fun vs H Q _ => ∃ (a : Addr) (ns : List Int), vs = [.ref a] ∧ SqL K H a (ns.map V.int) ∧ ns.length ≤ 63 ∧ ∀ H', Q (.bl true) H'
theorem true_sp {den : Den} (hden : ∀ ns : List Int, ns.length ≤ 63 → ∃ outs, den [.sc ns] = .ok (.fz (.bool true)) outs) {vs : List V} {H : Hp} {Q : VK} {E : XK} (h : spTrue K vs H Q E) : spOf K exr 1 den vs H Q E := by
  obtain ⟨a, ns, rfl, hS, hl, k⟩ := h
  obtain ⟨outs, hd⟩ := hden ns hl
  refine ⟨rfl, H, [.sc ns], fun _ => [], ⟨rfl, fun b o e => e, fun i x e => ?_, fun _ _ => rfl, fun _ _ _ _ z => nomatch z⟩, fun r o q v Z' H' F' G I' o' s' => ?_, fun x o q => ?_, fun q => ?_⟩
  · cases i with
    | zero =>
      have e : OV.sc ns = x := by simpa using e
      subst e
      exact ⟨.ref a, rfl, .sc hS⟩
    | succ i => simp at e
  · rw [hd] at q
    cases q
    cases o' with
    | fz r => cases r; exact k H'
  · rw [hd] at q; cases q
  · rw [hd] at q; cases q
theorem law_fn {den : Den} {k : Nat} {f : Addr} {fd : FuncData} {ps : List Str} {CX : CXT} (hden : ∀ ns : List Int, ns.length ≤ 63 → ∃ outs, den [.sc ns] = .ok (.fz (.bool true)) outs) (F : FnOk P w K mg base CX k f fd ps (spOf K exr 1 den)) : FnOk P w K mg base CX k f fd ps (spTrue K) := by
  constructor
  · exact fun vs H Q E h => F.len vs H Q E (true_sp hden h)
  · intros
    apply F.run <;> first | assumption | exact true_sp hden (by assumption)
theorem ecls_mk {x fld nm q : Str} {C fI N : Addr} {bs bm : List Value} {sn : List Str} {sub : List Value} {ab : Bool} {col : Option Bool} {dd : Option Addr} {m0 m1 m2 m3 m5 : Option Value}
    (xL : K.lookup C = some (excClassObj nm q C N bs bm true sn sub ab col dd m0 m1 m2 m3 m5 "ValueError.__new__")) (rb : PySem.HandSPX.refsVE bm = true) (sa : PySem.W.findIn K (.ref C) "__setattr__" = some (some (.builtin "object.__setattr__")))
    (ga : PySem.W.findIn K (.ref C) "__getattribute__" = some (some (.builtin "BaseException.__getattribute__"))) (gg : PySem.W.findIn K (.ref C) "__getattr__" = some none) (nb : PySem.W.findIn K (.ref C) fld = some none)
    (a1 : PySem.W.findIn K (.ref C) "__init__" = some (some (.ref fI))) (t1 : PySem.W.typeIn K (.ref fI) = some (.type "function")) (kC : PySem.W.keepIn K (.ref C) = true) (eC : PySem.W.subIn K (.ref C) (.type "BaseException") = some true)
    (tC : PySem.W.typeIn K (.ref C) = some (.type "type")) (hC : PySem.W.hasDictIn K C = true) (ha : PySem.W.findIn K (.ref C) "__class__" = some (some (.builtin "object.__class__")))
    (hn : PySem.W.specialIn K (.builtin "object.__class__") "__get__" = some (some (.builtin "getset_descriptor.__get__"))) (ht : PySem.W.takesIn K (.builtin "object.__class__") = some true) (hm : PySem.W.mroIn K C (.type "object") = some true) (gm : mg x = some (.ref C)) : ECls K mg x fld C fI :=
  ⟨⟨⟨nm, q, N, bs, bm, sn, sub, ab, col, dd, m0, m1, m2, m3, m5, xL, rb⟩, sa, eC, tC, kC⟩, ⟨ga, gg, eC, hC⟩, ⟨ga, gg, eC, hC, ha, hn, ht, hm⟩, nb, a1, t1, gm⟩
def IsOk (K : PySem.W.Frag) (mg : Str → Option Value) (C : Addr) : List (Str × Bool) → Prop
  | [] => True
  | (T, b) :: r => (∃ CT, mg T = some (.ref CT) ∧ PySem.W.kitOne K (.ref C) (.ref CT) = some b) ∧ IsOk K mg C r
theorem IsOk.at_ {C : Addr} : ∀ {l : List (Str × Bool)}, IsOk K mg C l → ∀ T b, l.contains (T, b) = true → ∃ CT, mg T = some (.ref CT) ∧ PySem.W.kitOne K (.ref C) (.ref CT) = some b
  | (T', b') :: r, h, T, b, e => by
    rw [List.contains_cons, Bool.or_eq_true] at e
    rcases e with e | e
    · rw [beq_iff_eq] at e; cases e; exact h.1
    · exact IsOk.at_ h.2 T b e
  | [], _, T, b, e => by simp at e
def HotOk (S : Ctx) : List Str → Prop
  | [] => True
  | x :: r => HotF S x wholeD ∧ HotOk S r
theorem HotOk.at_ {S : Ctx} : ∀ {l : List Str}, HotOk S l → ∀ x, l.contains x = true → HotF S x wholeD
  | y :: r, h, x, e => by
    rw [List.contains_cons, Bool.or_eq_true] at e
    rcases e with e | e
    · rw [beq_iff_eq] at e; subst e; exact h.1
    · exact HotOk.at_ h.2 x e
  | [], _, x, e => by simp at e
theorem hok_mk {k : Nat} {E : HEnt} {C Cx0 fI : Addr} {x : Str} {ca : Nat → Addr} {fl : Nat → Str} (T : ECls K mg x E.fld C fI) (gm : mg E.x = some (.ref Cx0)) (em : PySem.W.exmOne K (.ref C) (.ref Cx0) = some true) (ib : mg ("isinstance" : Str) = none) (is : IsOk K mg C E.isf)
    (hot : HotOk (ctx0 P w K mg base (exrOf ca fl) k) E.hot) (e1 : ca E.c = C) (e2 : fl E.c = E.fld) : HOk (ctx0 P w K mg base (exrOf ca fl) k) E C Cx0 :=
  ⟨gm, em, T.f, T.nf, T.i, ib, fun t b h => is.at_ t b h, fun x h => hot.at_ x h, fun xx cls d H h hc => exr_back h hc e1 e2⟩
end
end Vi

set_option Elab.async false
set_option linter.all false
set_option maxRecDepth 100000
namespace Vi
open PySem L2
/-! ### a def that calls itself: what it is worth, by how deep it goes -/
def fixD (g : Den → Den) : Nat → Den
  | 0 => fun _ => .bad
  | n + 1 => g (fixD g n)
section
variable {P : Program} {w : World} {K : PySem.W.Frag} {mg : Str → Option Value} {base : Heap} {exr : Exn → Value → Option Addr → Hp → Prop}
theorem bad_m {x : Str} {f : Addr} {fd : FuncData} {ps : List Str} (k : Nat) (hg : mg x = some (.ref f)) (hk : PySem.W.keepIn K (.ref f) = true) (hb : Binds K fd ps []) : FnM P w K mg base exr k x ps.length (fun _ => .bad) :=
  ⟨f, fd, ps, hg, hk, hb, rfl, ⟨fun vs H Q E q => q.1, fun A outer s H args us vs Q E hr he hb hv hs => by
    obtain ⟨_, _, _, _, _, _, _, z⟩ := hs
    exact absurd rfl z⟩⟩
theorem fix_m {x : Str} {np k : Nat} {g : Den → Den} (h0 : FnM P w K mg base exr k x np (fun _ => .bad)) (hs : ∀ n d, k ≤ n → FnM P w K mg base exr n x np d → FnM P w K mg base exr (n + 1) x np (g d)) : ∀ n, FnM P w K mg base exr (k + n) x np (fixD g n)
  | 0 => h0
  | n + 1 => hs (k + n) _ (Nat.le_add_right _ _) (fix_m h0 hs n)
end
end Vi

set_option Elab.async false
set_option linter.all false
set_option maxRecDepth 100000
set_option maxHeartbeats 4000000
namespace Vi
open PySem L2
/-! ### evaluation, where the environment is known -/
section
variable {α β : Type} {k : α → Env → Rs β} {e l : Env} {a : α} {x : Option OV}
theorem bind_ok : (Rs.ok a e).bind k = k a e := rfl
theorem bind_bad : (Rs.bad : Rs α).bind k = .bad := rfl
theorem bind_ex {x : Exn} : (Rs.ex x e : Rs α).bind k = .ex x e := rfl
theorem so_ok {k : α → Env → So} : (Rs.ok a e).so k = k a e := rfl
theorem sb_nx {k : Env → So} : (So.nx e).bind k = k e := rfl
theorem sb_ret {k : Env → So} {r : OV} : (So.ret r e).bind k = .ret r e := rfl
theorem sb_bad {k : Env → So} : So.bad.bind k = .bad := rfl
theorem d_fz {d : PyData} : (Rs.ok (.fz d) e).d = .ok d e := rfl
theorem o_some {r : OV} : Rs.o (some r) e = .ok r e := rfl
def tstD (d : PyData) (e : Env) : Rs Bool := match truthD d with
  | some r => .ok r e
  | none => .bad
theorem tst_b {b : Bool} : (Rs.ok (.bool b) e).tst = .ok b e := rfl
theorem tst_i {b : Int} : (Rs.ok (.int b) e).tst = .ok (b != 0) e := rfl
theorem tst_l {b : List PyData} : (Rs.ok (.list b) e).tst = .ok (!b.isEmpty) e := rfl
theorem tst_s {b : Str} : (Rs.ok (.str b) e).tst = .ok ((b.length : Int) != 0) e := rfl
theorem tst_n : (Rs.ok .none e).tst = .ok false e := rfl
def oB (o : Option Bool) (e : Env) : Rs Bool := match o with
  | some r => .ok r e
  | none => .bad
theorem oB_some {r : Bool} : oB (some r) e = .ok r e := rfl
def oP (o : Option PyData) (e : Env) : Rs PyData := match o with
  | some r => .ok r e
  | none => .bad
theorem oP_some {r : PyData} : oP (some r) e = .ok r e := rfl
def oL (o : Option (List PyData)) (e : Env) : Rs (List PyData) := match o with
  | some r => .ok r e
  | none => .bad
theorem oL_some {r : List PyData} : oL (some r) e = .ok r e := rfl
def rdV (o : Option (Option OV)) (i : Nat) (e : Env) : Rs OV := match o with
  | some (some (.fz d)) => .ok (.fz d) e
  | some (some (.ol xs)) => (match dsOf xs with
    | some ds => .ok (.fz (.list ds)) (e.set i (some (.fz (.list ds))))
    | none => .bad)
  | _ => .bad
theorem rdV_fz {i : Nat} {d : PyData} : rdV (some (some (.fz d))) i e = .ok (.fz d) e := rfl
def rdV2 (o : Option (List PyData)) (i : Nat) (e : Env) : Rs OV := match o with
  | some ds => .ok (.fz (.list ds)) (e.set i (some (.fz (.list ds))))
  | none => .bad
theorem rdV2_some {i : Nat} {ds : List PyData} : rdV2 (some ds) i e = .ok (.fz (.list ds)) (e.set i (some (.fz (.list ds)))) := rfl
theorem rdV_ol {i : Nat} {xs : List OV} : rdV (some (some (.ol xs))) i e = rdV2 (dsOf xs) i e := rfl
def mvV (o : Option (Option OV)) (i : Nat) (e : Env) : Rs OV := match o with
  | some (some (.ol xs)) => .ok (.ol xs) (e.set i none)
  | _ => rdVar i e
theorem mvV_ol {i : Nat} {xs : List OV} : mvV (some (some (.ol xs))) i e = .ok (.ol xs) (e.set i none) := rfl
theorem mvV_fz {i : Nat} {d : PyData} : mvV (some (some (.fz d))) i e = rdVar i e := rfl
theorem rdVar_c {i : Nat} : rdVar i (x :: l) = rdV (x :: l)[i]? i (x :: l) := by unfold rdVar rdV; rfl
variable {ρ : Rho}
theorem ev_var {i : Nat} : ev ρ (.var i) (x :: l) = rdV (x :: l)[i]? i (x :: l) := by rw [ev]; exact rdVar_c
theorem ev_mv {i : Nat} : ev ρ (.mv i) (x :: l) = mvV (x :: l)[i]? i (x :: l) := by rw [ev]; unfold mvVar mvV; rfl
theorem ev_int {i : Int} : ev ρ (.int i) e = .ok (.fz (.int i)) e := by rw [ev] <;> rfl
theorem ev_bl {i : Bool} : ev ρ (.bl i) e = .ok (.fz (.bool i)) e := by rw [ev] <;> rfl
theorem ev_non : ev ρ .non e = .ok (.fz .none) e := by rw [ev] <;> rfl
theorem ev_str {i : Str} : ev ρ (.str i) e = .ok (.fz (.str i)) e := by rw [ev] <;> rfl
theorem ev_gi {i : Int} : ev ρ (.gi i) e = .ok (.fz (.int i)) e := by rw [ev] <;> rfl
theorem ev_gs {i : Str} : ev ρ (.gs i) e = .ok (.fz (.str i)) e := by rw [ev] <;> rfl
theorem ev_bin {op : Operator} {a b : Ex'} : ev ρ (.bin op a b) (x :: l) = ((ev ρ a (x :: l)).d).bind fun da e1 => ((ev ρ b e1).d).bind fun db e2 => Rs.o (binD op da db) e2 := by rw [ev] <;> rfl
theorem ev_neg {a : Ex'} : ev ρ (.neg a) (x :: l) = ((ev ρ a (x :: l)).d).bind fun d e => Rs.o (negD d) e := by rw [ev] <;> rfl
theorem ev_cmp {op : CmpOp} {a b : Ex'} : ev ρ (.cmp op a b) (x :: l) = (((ev ρ a (x :: l)).d).bind fun da e1 => ((ev ρ b e1).d).bind fun db e2 => oB (cmpD op da db) e2).bind fun r e => .ok (.fz (.bool r)) e := by rw [ev] <;> rfl
theorem evT_cmp {op : CmpOp} {a b : Ex'} : evT ρ (.cmp op a b) (x :: l) = ((ev ρ a (x :: l)).d).bind fun da e1 => ((ev ρ b e1).d).bind fun db e2 => oB (cmpD op da db) e2 := by rw [evT] <;> rfl
theorem ev_chain {o1 o2 : CmpOp} {a b c : Ex'} : ev ρ (.chain o1 o2 a b c) (x :: l) = (evT ρ (.chain o1 o2 a b c) (x :: l)).bind fun r e => .ok (.fz (.bool r)) e := by rw [ev, evT] <;> rfl
theorem ev_one {a : Ex'} : ev ρ (.one a) (x :: l) = ((ev ρ a (x :: l)).d).bind fun d e => .ok (.fz d) e := by rw [ev] <;> rfl
def andK (ρ : Rho) (b : Ex') (o : Option Bool) (e1 : Env) : Rs PyData := match o with
  | some true => (ev ρ b e1).d
  | some false => .ok (.bool false) e1
  | none => .bad
theorem andK_t {b : Ex'} : andK ρ b (some true) e = (ev ρ b e).d := rfl
theorem andK_f {b : Ex'} : andK ρ b (some false) e = .ok (.bool false) e := rfl
theorem andK_b {b : Ex'} {r : Bool} : andK ρ b (some r) e = if r = true then (ev ρ b e).d else .ok (.bool false) e := by cases r <;> rfl
def orK (ρ : Rho) (b : Ex') (o : Option Bool) (e1 : Env) : Rs PyData := match o with
  | some true => .ok (.bool true) e1
  | some false => (ev ρ b e1).d
  | none => .bad
theorem orK_b {b : Ex'} {r : Bool} : orK ρ b (some r) e = if r = true then .ok (.bool true) e else (ev ρ b e).d := by cases r <;> rfl
def notK (o : Option Bool) (e1 : Env) : Rs PyData := match o with
  | some true => .ok (.bool false) e1
  | some false => .ok (.bool true) e1
  | none => .bad
theorem notK_b {r : Bool} : notK (some r) e = .ok (.bool (!r)) e := by cases r <;> rfl
theorem ev_and {a b : Ex'} : ev ρ (.and a b) (x :: l) = (((ev ρ a (x :: l)).d).bind fun d e1 => andK ρ b (isB d) e1).bind fun d e => .ok (.fz d) e := by rw [ev] <;> rfl
theorem ev_or {a b : Ex'} : ev ρ (.or a b) (x :: l) = (((ev ρ a (x :: l)).d).bind fun d e1 => orK ρ b (isB d) e1).bind fun d e => .ok (.fz d) e := by rw [ev] <;> rfl
theorem ev_not {a : Ex'} : ev ρ (.not a) (x :: l) = (((ev ρ a (x :: l)).d).bind fun d e1 => notK (isB d) e1).bind fun d e => .ok (.fz d) e := by rw [ev] <;> rfl
theorem isB_b {r : Bool} : isB (.bool r) = some r := rfl
theorem ev_ite {c a b : Ex'} : ev ρ (.ite c a b) (x :: l) = (evT ρ c (x :: l)).bind fun r e1 => if r = true then ev ρ a e1 else ev ρ b e1 := by rw [ev] <;> rfl
theorem ev_tup {es : Exs} : ev ρ (.tup es) (x :: l) = ((evs ρ es (x :: l)).bind fun ds e1 => if ds.length ≤ sizeLine then .ok (.tuple ds) e1 else .bad).bind fun d e => .ok (.fz d) e := by rw [ev] <;> rfl
theorem ev_lst {es : Exs} : ev ρ (.lst es) (x :: l) = (evO ρ es (x :: l)).bind fun ds e1 => if ds.length ≤ sizeLine then .ok (.ol ds) e1 else .bad := by rw [ev] <;> rfl
theorem ev_ix {a b : Ex'} : ev ρ (.ix a b) (x :: l) = (((ev ρ a (x :: l)).d).bind fun da e1 => ((ev ρ b e1).d).bind fun db e2 => oP (ixD da db) e2).bind fun d e => .ok (.fz d) e := by rw [ev] <;> rfl
theorem ev_slc {a : Ex'} {lo hi : Opt} : ev ρ (.slc a lo hi) (x :: l) = ((ev ρ a (x :: l)).d).bind fun da e1 => (evP ρ lo e1).bind fun lo e2 => (evP ρ hi e2).bind fun hi e3 => Rs.o (slcD da lo hi) e3 := by rw [ev] <;> rfl
theorem evP_no : evP ρ .no e = .ok none e := by rw [evP] <;> rfl
def partK : PyData → Env → Rs (Option Int)
  | d, e1 => (partM (fun _ => .ok d e1)) e1
theorem evP_yes {a : Ex'} : evP ρ (.yes a) (x :: l) = partM (fun env => (ev ρ a env).d) (x :: l) := by rw [evP] <;> rfl
def calK (as : List ArgM) (den : Den) : Option (List OV × Env) → Rs OV
  | none => .bad
  | some (ovs, e2) => match den ovs with
    | .ok r outs => .ok r (putB as outs e2)
    | .ex x outs => .ex x (putB as outs e2)
    | .bad => .bad
theorem ev_call {f : Nat} {as : Args} : ev ρ (.call f as) (x :: l) = (argsM (evA ρ as) (x :: l)).bind fun ds e1 => calK (evA ρ as) (ρ f) (asm (evA ρ as) ds e1) := by
  rw [ev]; unfold callD
  congr 1
def calR (as : List ArgM) (e2 : Env) : Rs OV → Rs OV
  | .ok r outs => .ok r (putB as outs e2)
  | .ex x outs => .ex x (putB as outs e2)
  | .bad => .bad
theorem calK_some {as : List ArgM} {den : Den} {ovs : List OV} : calK as den (some (ovs, e)) = calR as e (den ovs) := by
  cases h : den ovs <;> simp [calK, calR, h]
theorem calR_ok {as : List ArgM} {r : OV} {outs : Env} : calR as e (.ok r outs) = .ok r (putB as outs e) := rfl
theorem evA_nil : evA ρ .nil = [] := by rw [evA] <;> rfl
theorem evA_e {a : Ex'} {r : Args} : evA ρ (.e a r) = .inl (fun env => (ev ρ a env).d) :: evA ρ r := by rw [evA] <;> rfl
theorem evA_o {i : Nat} {r : Args} : evA ρ (.o i r) = .inr i :: evA ρ r := by rw [evA] <;> rfl
theorem args_nil : argsM [] e = .ok [] e := by unfold argsM; rfl
theorem args_e {m : M PyData} {r : List ArgM} : argsM (.inl m :: r) e = (m e).bind fun d e1 => (argsM r e1).bind fun ds e2 => .ok (d :: ds) e2 := by rw [argsM]
def argK (r : List ArgM) (e : Env) : Option (Option OV) → Rs (List PyData)
  | some (some _) => argsM r e
  | _ => .bad
theorem args_o {i : Nat} {r : List ArgM} : argsM (.inr i :: r) e = argK r e e[i]? := by rw [argsM]; unfold argK; rfl
theorem argK_s {r : List ArgM} {o : OV} : argK r e (some (some o)) = argsM r e := rfl
theorem asm_nil : asm [] [] e = some ([], e) := by unfold asm; rfl
theorem asm_e {m : M PyData} {r : List ArgM} {d : PyData} {ds : List PyData} : asm (.inl m :: r) (d :: ds) e = (asm r ds e).map fun p => (.fz d :: p.1, p.2) := by
  conv => lhs; unfold asm
  cases asm r ds e <;> rfl
def asmK (r : List ArgM) (ds : List PyData) (e : Env) (i : Nat) : Option (Option OV) → Option (List OV × Env)
  | some (some x) => if lent x = true then (asm r ds (e.set i none)).map fun p => (x :: p.1, p.2) else none
  | _ => none
theorem asm_o {i : Nat} {r : List ArgM} {ds : List PyData} : asm (.inr i :: r) ds e = asmK r ds e i e[i]? := by
  conv => lhs; unfold asm
  unfold asmK
  cases h : e[i]? with
  | none => rfl
  | some o =>
    cases o with
    | none => rfl
    | some x =>
      simp only []
      by_cases q : lent x = true
      · rw [if_pos q, if_pos q]
        cases asm r ds (e.set i none) <;> rfl
      · rw [if_neg q, if_neg q]
theorem asmK_s {r : List ArgM} {ds : List PyData} {i : Nat} {o : OV} : asmK r ds e i (some (some o)) = if lent o = true then (asm r ds (e.set i none)).map fun p => (o :: p.1, p.2) else none := rfl
theorem lent_ol {xs : List OV} : lent (.ol xs) = true := rfl
theorem lent_sc {xs : List Int} : lent (.sc xs) = true := rfl
theorem lent_fz {d : PyData} : lent (.fz d) = false := rfl
theorem put_nil : putB [] [] e = e := by unfold putB; rfl
theorem put_e {m : M PyData} {r : List ArgM} {o : Option OV} {os : Env} : putB (.inl m :: r) (o :: os) e = putB r os e := by conv => lhs; unfold putB
theorem put_o {i : Nat} {r : List ArgM} {o : Option OV} {os : Env} : putB (.inr i :: r) (o :: os) e = (putB r os e).set i o := by conv => lhs; unfold putB
theorem ev_blt {b : Bf} {es : Exs} : ev ρ (.blt b es) (x :: l) = (evs ρ es (x :: l)).bind fun ds e1 => Rs.o (bfD b ds) e1 := by rw [ev] <;> rfl
theorem ev_isi {a : Ex'} {t : Ty} : ev ρ (.isi a t) (x :: l) = (((ev ρ a (x :: l)).d).bind fun d e1 => (oB (isiD d t) e1).bind fun b e => .ok (.bool b) e).bind fun d e => .ok (.fz d) e := by
  rw [ev]; unfold isiM
  dsimp only
  cases (ev ρ a (x :: l)).d with
  | ok d e1 => simp only [bind_ok]; cases isiD d t <;> rfl
  | ex _ _ => rfl
  | bad => rfl
def lscK (e : Env) : Option (Option OV) → Rs OV
  | some (some (.sc ns)) => if ns.length ≤ sizeLine then .ok (.ol (ns.map fun n => .fz (.int n))) e else .bad
  | _ => .bad
theorem ev_lsc {i : Nat} : ev ρ (.lsc i) (x :: l) = lscK (x :: l) (x :: l)[i]? := by rw [ev]; unfold lscM lscK; rfl
theorem lscK_s {ns : List Int} : lscK e (some (some (.sc ns))) = if ns.length ≤ sizeLine then .ok (.ol (ns.map fun n => .fz (.int n))) e else .bad := rfl
def cmpK (vs : List Nat) (e1 : Env) : Rs (List OV) → Rs OV
  | .ok ys e2 => .ok (.ol ys) (resE vs e1 e2)
  | .ex _ _ => .bad
  | .bad => .bad
theorem cmpK_ok {vs : List Nat} {e1 e2 : Env} {ys : List OV} : cmpK vs e1 (.ok ys e2) = .ok (.ol ys) (resE vs e1 e2) := rfl
theorem ev_lc {elt : Ex'} {tg : Tg} {it : Itr'} {c : Opt} {vs : List Nat} : ev ρ (.lc elt tg it c vs) (x :: l) = (evI ρ it (x :: l)).bind fun ds e1 => cmpK vs e1 (compL (bdG tg) (evC ρ c) (ev ρ elt) vs ds (wipeE e1 vs)) := by
  rw [ev]; unfold compM
  congr 1
theorem evC_no : evC ρ .no e = .ok true e := by rw [evC] <;> rfl
theorem evC_yes {a : Ex'} : evC ρ (.yes a) e = evT ρ a e := by rw [evC] <;> rfl
theorem evI_e {a : Ex'} : evI ρ (.e a) (x :: l) = ((ev ρ a (x :: l)).d).bind fun d e1 => oL (itD d) e1 := by rw [evI] <;> rfl
def rgK (e : Env) : Option (Option OV) → Rs (List PyData)
  | some (some (.rg lo hi)) => if (-(2 ^ 61) ≤ lo ∧ lo < 2 ^ 61) ∧ (-(2 ^ 61) ≤ hi ∧ hi < 2 ^ 61) ∧ hi - lo ≤ 16777216 then .ok (rngL lo hi) e else .bad
  | _ => .bad
theorem evI_rg {i : Nat} : evI ρ (.rg i) (x :: l) = rgK (x :: l) (x :: l)[i]? := by rw [evI]; unfold rgItM rgK; rfl
theorem rgK_s {lo hi : Int} : rgK e (some (some (.rg lo hi))) = if (-(2 ^ 61) ≤ lo ∧ lo < 2 ^ 61) ∧ (-(2 ^ 61) ≤ hi ∧ hi < 2 ^ 61) ∧ hi - lo ≤ 16777216 then .ok (rngL lo hi) e else .bad := rfl
theorem evI_r1 {a : Ex'} : evI ρ (.r1 a) (x :: l) = ((ev ρ a (x :: l)).d).bind fun d e1 => oL (rngD [d]) e1 := by
  rw [evI]; unfold rngM consL
  dsimp only
  cases (ev ρ a (x :: l)).d <;> rfl
theorem evI_r2 {a b : Ex'} : evI ρ (.r2 a b) (x :: l) = ((ev ρ a (x :: l)).d).bind fun d e1 => ((ev ρ b e1).d).bind fun d2 e2 => oL (rngD [d, d2]) e2 := by
  rw [evI]; unfold rngM consL
  dsimp only
  cases (ev ρ a (x :: l)).d with
  | ok d e1 => simp only [bind_ok]; cases (ev ρ b e1).d <;> rfl
  | ex _ _ => rfl
  | bad => rfl
theorem evs_nil : evs ρ .nil e = .ok [] e := by rw [evs] <;> rfl
theorem evs_cons {a : Ex'} {r : Exs} : evs ρ (.cons a r) e = ((ev ρ a e).d).bind fun d e1 => (evs ρ r e1).bind fun ds e2 => .ok (d :: ds) e2 := by rw [evs] <;> rfl
theorem evO_nil : evO ρ .nil e = .ok [] e := by rw [evO] <;> rfl
theorem evO_cons {a : Ex'} {r : Exs} : evO ρ (.cons a r) e = (ev ρ a e).bind fun d e1 => (evO ρ r e1).bind fun ds e2 => .ok (d :: ds) e2 := by rw [evO] <;> rfl
def olO : Option (Option OV) → Option (List OV)
  | some (some (.ol xs)) => some xs
  | _ => none
theorem olO_s {xs : List OV} : olO (some (some (.ol xs))) = some xs := rfl
theorem olOf_c {i : Nat} : olOf (x :: l) i = olO (x :: l)[i]? := by unfold olOf olO; rfl
def appK2 (i : Nat) (r : OV) (e1 : Env) : Option (List OV) → Rs OV
  | none => .bad
  | some xs => if xs.length < sizeLine then .ok (.fz .none) (e1.set i (some (.ol (xs ++ [r])))) else .bad
theorem appK2_s {i : Nat} {r : OV} {xs : List OV} : appK2 i r e (some xs) = if xs.length < sizeLine then .ok (.fz .none) (e.set i (some (.ol (xs ++ [r])))) else .bad := rfl
def appK (ρ : Rho) (i : Nat) (a : Ex') (e : Env) : Option (List OV) → Rs OV
  | none => .bad
  | some _ => (ev ρ a e).bind fun r e1 => appK2 i r e1 (olOf e1 i)
theorem appK_s {i : Nat} {a : Ex'} {xs : List OV} : appK ρ i a e (some xs) = (ev ρ a e).bind fun r e1 => appK2 i r e1 (olOf e1 i) := rfl
theorem ev_app {i : Nat} {a : Ex'} : ev ρ (.app i a) (x :: l) = appK ρ i a (x :: l) (olOf (x :: l) i) := by
  rw [ev]; unfold appM appK
  cases olOf (x :: l) i with
  | none => rfl
  | some xs =>
    simp only []
    congr 1
def bwK (e fe : Env) : Rs OV → Rs OV
  | .ok r _ => if closed r = true then .ok r e else .ok r fe
  | .ex x _ => .ex x fe
  | .bad => .bad
theorem bwK_ok {fe e2 : Env} {r : OV} : bwK e fe (.ok r e2) = if closed r = true then .ok r e else .ok r fe := rfl
theorem ev_bw {vs ks : List Nat} {a : Ex'} : ev ρ (.bw vs ks a) (x :: l) = if noOwn (killE ks (frzE vs (x :: l))) = true then bwK (x :: l) (frzE vs (x :: l)) (ev ρ a (killE ks (frzE vs (x :: l)))) else .bad := by
  rw [ev]; unfold bwM bwK
  rfl
def bwK' (e fe : Env) : Rs Bool → Rs Bool
  | .ok r _ => .ok r e
  | .ex x _ => .ex x fe
  | .bad => .bad
theorem bwK'_ok {fe e2 : Env} {r : Bool} : bwK' e fe (.ok r e2) = .ok r e := rfl
theorem ev_mt {m : Mf} {o a : Ex'} : ev ρ (.mt m o a) (x :: l) = (((ev ρ o (x :: l)).d).bind fun s e1 => match s with
    | .str s => ((ev ρ a e1).d).bind fun d e2 => oP (mfD m s d) e2
    | _ => .bad).bind fun d e => .ok (.fz d) e := by rw [ev]; rfl
theorem evT_mt {m : Mf} {o a : Ex'} : evT ρ (.mt m o a) (x :: l) = (ev ρ (.mt m o a) (x :: l)).d.tst := by simp only [evT]
def appNK (j n : Nat) (d : PyData) (e : Env) : Option (List OV) → Option (List OV) → Rs OV
  | some xs, some ys => if ys.length < sizeLine then .ok (.fz .none) (e.set j (some (.ol (xs.set n (.ol (ys ++ [.fz d])))))) else .bad
  | _, _ => .bad
theorem appNK_s {j n : Nat} {d : PyData} {xs ys : List OV} : appNK j n d e (some xs) (some ys) = if ys.length < sizeLine then .ok (.fz .none) (e.set j (some (.ol (xs.set n (.ol (ys ++ [.fz d])))))) else .bad := rfl
theorem ev_appN {j n : Nat} {d : PyData} : ev ρ (.appN j n d) (x :: l) = appNK j n d (x :: l) (olOf (x :: l) j) (inOf (x :: l) j n) := by rw [ev]; unfold appN appNK; rfl
def inK (n : Nat) : Option (List OV) → Option (List OV)
  | some xs => (match xs[n]? with
    | some (.ol ys) => some ys
    | _ => none)
  | none => none
def inK2 : Option OV → Option (List OV)
  | some (.ol ys) => some ys
  | _ => none
theorem inOf_c {j n : Nat} : inOf (x :: l) j n = inK n (olOf (x :: l) j) := by unfold inOf inK; rfl
theorem inK_s {n : Nat} {xs : List OV} : inK n (some xs) = inK2 xs[n]? := by unfold inK inK2; rfl
theorem inK2_s {ys : List OV} : inK2 (some (.ol ys)) = some ys := rfl
def mvixK (j : Nat) (e : Env) : Option (List OV) → Rs OV
  | some ys => .ok (.ol ys) (e.set j none)
  | none => .bad
theorem mvixK_s {j : Nat} {ys : List OV} : mvixK j e (some ys) = .ok (.ol ys) (e.set j none) := rfl
theorem ev_mvix {j n : Nat} : ev ρ (.mvix j n) (x :: l) = mvixK j (x :: l) (inOf (x :: l) j n) := by rw [ev]; unfold mvixM mvixK; rfl
theorem ev_rev {a : Ex'} : ev ρ (.rev a) (x :: l) = ((ev ρ a (x :: l)).d).bind fun d e => Rs.o (revD d) e := by rw [ev] <;> rfl
theorem ev_repC {r : Str} : ev ρ (.repC r) e = .ok (.fz (.str r)) e := by rw [ev] <;> rfl
theorem evT_rev {a : Ex'} : evT ρ (.rev a) (x :: l) = (ev ρ (.rev a) (x :: l)).d.tst := by simp only [evT]
theorem evI_en {a : Ex'} : evI ρ (.en a) (x :: l) = ((ev ρ a (x :: l)).d).bind fun d e1 => oL (match d with | .list ds => some (enL ds) | .str s => some (enL (signs s)) | _ => none) e1 := by
  rw [evI]; unfold enM
  dsimp only
  cases (ev ρ a (x :: l)).d with
  | ok d e1 => simp only [bind_ok]; cases d <;> rfl
  | ex _ _ => rfl
  | bad => rfl
theorem evI_rv {a : Ex'} : evI ρ (.rv a) (x :: l) = ((ev ρ a (x :: l)).d).bind fun d e1 => oL (match d with | .list ds => some ds.reverse | _ => none) e1 := by
  rw [evI]; unfold rvM
  dsimp only
  cases (ev ρ a (x :: l)).d with
  | ok d e1 => simp only [bind_ok]; cases d <;> rfl
  | ex _ _ => rfl
  | bad => rfl
theorem evT_bw {vs ks : List Nat} {a : Ex'} : evT ρ (.bw vs ks a) (x :: l) = if noOwn (killE ks (frzE vs (x :: l))) = true then bwK' (x :: l) (frzE vs (x :: l)) (evT ρ a (killE ks (frzE vs (x :: l)))) else .bad := by
  rw [evT]; unfold bwT
  rfl
theorem evT_chain {o1 o2 : CmpOp} {a b c : Ex'} : evT ρ (.chain o1 o2 a b c) (x :: l) = chain2 (fun env => (ev ρ a env).d) (fun env => (ev ρ b env).d) (fun env => (ev ρ c env).d) (cmpD o1) (cmpD o2) (x :: l) := by rw [evT] <;> rfl
theorem evT_one {a : Ex'} : evT ρ (.one a) e = evT ρ a e := by rw [evT] <;> rfl
theorem evT_and {a b : Ex'} : evT ρ (.and a b) (x :: l) = (evT ρ a (x :: l)).bind fun r e1 => if r = true then evT ρ b e1 else .ok false e1 := by rw [evT] <;> rfl
theorem evT_or {a b : Ex'} : evT ρ (.or a b) (x :: l) = (evT ρ a (x :: l)).bind fun r e1 => if r = true then .ok true e1 else evT ρ b e1 := by rw [evT] <;> rfl
theorem evT_not {a : Ex'} : evT ρ (.not a) (x :: l) = (evT ρ a (x :: l)).bind fun r e1 => .ok (!r) e1 := by rw [evT] <;> rfl
theorem evT_var {i : Nat} : evT ρ (.var i) (x :: l) = (ev ρ (.var i) (x :: l)).d.tst := by simp only [evT]
theorem evT_call {f : Nat} {as : Args} : evT ρ (.call f as) (x :: l) = (ev ρ (.call f as) (x :: l)).d.tst := by simp only [evT]
theorem evT_isi {a : Ex'} {t : Ty} : evT ρ (.isi a t) (x :: l) = (ev ρ (.isi a t) (x :: l)).d.tst := by simp only [evT]
theorem evT_blt {b : Bf} {es : Exs} : evT ρ (.blt b es) (x :: l) = (ev ρ (.blt b es) (x :: l)).d.tst := by simp only [evT]
theorem evT_ix {a b : Ex'} : evT ρ (.ix a b) (x :: l) = (ev ρ (.ix a b) (x :: l)).d.tst := by simp only [evT]
theorem evT_bin {op : Operator} {a b : Ex'} : evT ρ (.bin op a b) (x :: l) = (ev ρ (.bin op a b) (x :: l)).d.tst := by simp only [evT]
theorem evT_bl {b : Bool} : evT ρ (.bl b) e = .ok b e := by simp only [evT, ev]; rfl
variable {own : List Nat}
theorem ex_pass : exS ρ own .pass e = .nx e := by rw [exS] <;> rfl
theorem ex_asg {i : Nat} {a : Ex'} : exS ρ own (.asg i a) (x :: l) = if own.contains i = true then .bad else (ev ρ a (x :: l)).so fun r e1 => if i < e1.length then .nx (e1.set i (some r)) else .bad := by rw [exS] <;> rfl
theorem ex_expr {a : Ex'} : exS ρ own (.expr a) (x :: l) = (ev ρ a (x :: l)).so fun _ e1 => .nx e1 := by rw [exS] <;> rfl
theorem ex_ret {a : Ex'} : exS ρ own (.ret a) (x :: l) = (ev ρ a (x :: l)).so fun r e1 => .ret r e1 := by rw [exS] <;> rfl
theorem ex_retN : exS ρ own .retN e = .ret (.fz .none) e := by rw [exS] <;> rfl
theorem ex_if {c : Ex'} {a b : Sts} : exS ρ own (.iff c a b) (x :: l) = (evT ρ c (x :: l)).so fun r e1 => if r = true then exs ρ own a e1 else exs ρ own b e1 := by rw [exS] <;> rfl
theorem ex_for {tg : Tg} {it : Itr'} {b : Sts} : exS ρ own (.forr tg it b) (x :: l) = if tg.js.any own.contains = true then .bad else (evI ρ it (x :: l)).so fun ds e1 => forL (bdG tg) (exs ρ own b) ds e1 := by rw [exS] <;> rfl
theorem ex_whl {n : Nat} {c : Ex'} {b : Sts} : exS ρ own (.whl n c b) e = whileL (evT ρ c) (exs ρ own b) n e := by rw [exS] <;> rfl
def setK2 (j : Nat) (d : PyData) (e2 : Env) : Option (List OV) → PyData → So
  | some xs, .int k => (match ixN xs.length k with
    | some n => .nx (e2.set j (some (.ol (xs.set n (.fz d)))))
    | none => .bad)
  | _, _ => .bad
def setK3 (j : Nat) (d : PyData) (e2 : Env) (xs : List OV) : Option Nat → So
  | some n => .nx (e2.set j (some (.ol (xs.set n (.fz d)))))
  | none => .bad
theorem setK2_s {j : Nat} {d : PyData} {xs : List OV} {k : Int} : setK2 j d e (some xs) (.int k) = setK3 j d e xs (ixN xs.length k) := by
  unfold setK2 setK3
  rfl
theorem setK3_s {j n : Nat} {d : PyData} {xs : List OV} : setK3 j d e xs (some n) = .nx (e.set j (some (.ol (xs.set n (.fz d))))) := rfl
def setK (ρ : Rho) (j : Nat) (i : Ex') (d : PyData) (e1 : Env) : Option (List OV) → So
  | none => .bad
  | some _ => ((ev ρ i e1).d).so fun di e2 => setK2 j d e2 (olOf e2 j) di
theorem setK_s {j : Nat} {i : Ex'} {d : PyData} {xs : List OV} : setK ρ j i d e (some xs) = ((ev ρ i e).d).so fun di e2 => setK2 j d e2 (olOf e2 j) di := rfl
theorem ex_set {j : Nat} {i a : Ex'} : exS ρ own (.set j i a) (x :: l) = ((ev ρ a (x :: l)).d).so fun d e1 => setK ρ j i d e1 (olOf e1 j) := by
  rw [exS]; unfold setM
  congr 1
theorem ex_aug {i : Nat} {op : Operator} {a : Ex'} : exS ρ own (.aug i op a) e = augM own i op (fun env => (ev ρ a env).d) e := by rw [exS] <;> rfl
theorem ex_augS {j : Nat} {op : Operator} {i a : Ex'} : exS ρ own (.augS j op i a) e = augSM j op (fun env => (ev ρ i env).d) (fun env => (ev ρ a env).d) e := by rw [exS] <;> rfl
def asgTK (o : Option Env) : So := match o with
  | some e2 => .nx e2
  | none => .bad
theorem asgTK_s : asgTK (some e) = .nx e := rfl
theorem ex_asgT {is : List Nat} {a : Ex'} : exS ρ own (.asgT is a) (x :: l) = if (Tg.tp is).js.any own.contains = true then .bad else ((ev ρ a (x :: l)).d).so fun d e1 => asgTK (bdG (.tp is) d e1) := by rw [exS]; unfold asgTM asgTK; rfl
def bwsK (keep : List Nat) (env : Env) : So → So
  | .nx e' => if e'.length = env.length then .nx (keepE keep 0 env e') else .bad
  | .ret r e' => if closedR r = true ∧ e'.length = env.length then .ret r (keepE keep 0 env e') else .bad
  | .ex x e' => if e'.length = env.length then .ex x (keepE keep 0 env e') else .bad
  | .bad => .bad
theorem bwsK_nx {keep : List Nat} {e' : Env} : bwsK keep e (.nx e') = if e'.length = e.length then .nx (keepE keep 0 e e') else .bad := rfl
theorem bwsK_ret {keep : List Nat} {e' : Env} {r : OV} : bwsK keep e (.ret r e') = if closedR r = true ∧ e'.length = e.length then .ret r (keepE keep 0 e e') else .bad := rfl
theorem ex_bws {vs ks keep : List Nat} {s : St'} : exS ρ own (.bws vs ks keep s) (x :: l) = if own.all keep.contains = true then (if noOwn (killE ks (frzE vs (x :: l))) = true then bwsK keep (x :: l) (exS ρ keep s (killE ks (frzE vs (x :: l)))) else .bad) else .bad := by
  rw [exS]
  split
  · unfold bwSM bwsK; rfl
  · rfl
theorem exs_nil : exs ρ own .nil e = .nx e := by rw [exs] <;> rfl
theorem exs_cons {s : St'} {r : Sts} : exs ρ own (.cons s r) e = (exS ρ own s e).bind (exs ρ own r) := by rw [exs] <;> rfl
def runK (ovs : List OV) : So → Rs OV
  | .ret r env => .ok r (outsR ovs env)
  | .nx env => .ok (.fz .none) (outsR ovs env)
  | .ex x env => .ex x (outsR ovs env)
  | .bad => .bad
theorem run_b {np nv : Nat} {m : MS} {ovs : List OV} : runB np nv own m ovs = if ovs.length = np ∧ np ≤ nv ∧ lentOk own ovs 0 = true then runK ovs (m (ovs.map some ++ List.replicate (nv - np) none)) else .bad := by
  unfold runB runK
  rfl
theorem runK_ret {ovs : List OV} {r : OV} : runK ovs (.ret r e) = .ok r (outsR ovs e) := rfl
theorem runK_nx {ovs : List OV} : runK ovs (.nx e) = .ok (.fz .none) (outsR ovs e) := rfl
theorem ex_rais {c : Nat} {x' fld : Str} {a : Ex'} : exS ρ own (.rais c x' fld a) (x :: l) = ((ev ρ a (x :: l)).d).so fun d e1 => if closedD d = true then .ex ⟨c, some d⟩ e1 else .bad := by rw [exS]; rfl
def tryK (own : List Nat) (i c : Nat) (hv : PyData → Option (List PyData)) : So → So
  | .ex xx e' => if xx.c = c ∧ own.contains i = false ∧ i < e'.length then (match xx.a with
    | some v => (match hv v with
      | some ds => if ds.all closedD = true then .ret (.fz (.tuple ds)) (e'.set i none) else .bad
      | none => .bad)
    | none => .bad) else .bad
  | r => r
theorem tryK_nx {i c : Nat} {hv : PyData → Option (List PyData)} : tryK own i c hv (.nx e) = .nx e := rfl
theorem tryK_ret {i c : Nat} {hv : PyData → Option (List PyData)} {r : OV} : tryK own i c hv (.ret r e) = .ret r e := rfl
theorem tryK_ex {i c : Nat} {hv : PyData → Option (List PyData)} {d : PyData} {ds : List PyData} (h : hv d = some ds) (h2 : ds.all closedD = true) (h3 : own.contains i = false) (h4 : i < e.length) : tryK own i c hv (.ex ⟨c, some d⟩ e) = .ret (.fz (.tuple ds)) (e.set i none) := by
  simp [tryK, h, h2, h4]
  intro z
  have := List.contains_iff_mem.mpr z
  rw [h3] at this; cases this
theorem ex_try {b : Sts} {i : Nat} {E : HEnt} {h : Hs} : exS ρ own (.tryx b i E h) e = tryK own i E.c (hsV h) (exs ρ own b e) := by
  rw [exS]; unfold tryM tryK; rfl
theorem so_ex {k : α → Env → So} {z : Exn} : (Rs.ex z e : Rs α).so k = .ex z e := rfl
theorem sb_ex {k : Env → So} {z : Exn} : (So.ex z e).bind k = .ex z e := rfl
theorem d_ex {z : Exn} : (Rs.ex z e : Rs OV).d = .ex z e := rfl
theorem runK_ex {ovs : List OV} {z : Exn} : runK ovs (.ex z e) = .ex z (outsR ovs e) := rfl
theorem calR_ex {as : List ArgM} {outs : Env} {z : Exn} : calR as e (.ex z outs) = .ex z (putB as outs e) := rfl
def frzK (i : Nat) (vs : List Nat) (e : Env) : Option (Option OV) → Env
  | some (some (.ol xs)) => (match dsOf xs with
    | some ds => frzE vs (e.set i (some (.fz (.list ds))))
    | none => frzE vs e)
  | _ => frzE vs e
def frzK2 (i : Nat) (vs : List Nat) (e : Env) : Option (List PyData) → Env
  | some ds => frzE vs (e.set i (some (.fz (.list ds))))
  | none => frzE vs e
theorem frz_cons {i : Nat} {vs : List Nat} : frzE (i :: vs) (x :: l) = frzK i vs (x :: l) (x :: l)[i]? := by
  conv => lhs; unfold frzE
  unfold frzK; rfl
theorem frzK_ol {i : Nat} {vs : List Nat} {xs : List OV} : frzK i vs e (some (some (.ol xs))) = frzK2 i vs e (dsOf xs) := by
  unfold frzK frzK2; rfl
theorem frzK2_s {i : Nat} {vs : List Nat} {ds : List PyData} : frzK2 i vs e (some ds) = frzE vs (e.set i (some (.fz (.list ds)))) := rfl
theorem frzK_fz {i : Nat} {vs : List Nat} {d : PyData} : frzK i vs e (some (some (.fz d))) = frzE vs e := rfl
theorem frzK_no {i : Nat} {vs : List Nat} : frzK i vs e (some none) = frzE vs e := rfl
theorem dOf_fz {d : PyData} : dOf (.fz d) = some d := by unfold dOf; rfl
theorem dsOf_nil : dsOf [] = some [] := by unfold dsOf; rfl
theorem dsOf_cons {x : OV} {xs : List OV} : dsOf (x :: xs) = (dOf x).bind fun d => (dsOf xs).map fun ds => d :: ds := by
  conv => lhs; unfold dsOf
  cases dOf x <;> cases dsOf xs <;> rfl
theorem dsOf_fz : ∀ ds : List PyData, dsOf (ds.map .fz) = some ds
  | [] => dsOf_nil
  | d :: ds => by rw [List.map_cons, dsOf_cons, dOf_fz, dsOf_fz ds]; rfl
/-- an owned list of whole numbers -/
def olI (l : List Int) : OV := .ol (l.map fun i => .fz (.int i))
theorem olI_fz (l : List Int) : olI l = .ol ((l.map PyData.int).map .fz) := by simp [olI, Function.comp_def]
theorem dsOf_ints (l : List Int) : dsOf (l.map fun i => .fz (.int i)) = some (l.map .int) := by
  have := dsOf_fz (l.map PyData.int)
  simpa [Function.comp_def] using this
theorem dOf_olI {l : List Int} : dOf (olI l) = some (.list (l.map .int)) := by
  unfold olI dOf
  rw [dsOf_ints]; rfl
theorem dOf_olI' {l : List Int} : dOf (.ol (l.map fun i => .fz (.int i))) = some (.list (l.map .int)) := dOf_olI
theorem d_olI {l : List Int} : (Rs.ok (olI l) e).d = .ok (.list (l.map .int)) e := by
  show (match dOf (olI l) with | some d => Rs.ok d e | none => .bad) = _
  rw [dOf_olI]
theorem d_ol {xs : List OV} : (Rs.ok (.ol xs) e).d = match dsOf xs with | some ds => .ok (.list ds) e | none => .bad := by
  show (match dOf (.ol xs) with | some d => Rs.ok d e | none => .bad) = _
  unfold dOf
  cases dsOf xs <;> rfl
theorem frzE_nil : frzE [] e = e := by unfold frzE; rfl
end
/-! ### laws of evaluation -/
theorem mul_l {a b : Int} (h : a.natAbs < 2 ^ 64) : mulD (.int a) (.int b) = some (.fz (.int (a * b))) := by
  have : mulG a b = true := by unfold mulG; rw [decide_eq_true h]; rfl
  simp [mulD, this]
theorem mul_r {a b : Int} (h : b.natAbs < 2 ^ 64) : mulD (.int a) (.int b) = some (.fz (.int (a * b))) := by
  have : mulG a b = true := by unfold mulG; rw [decide_eq_true h]; simp
  simp [mulD, this]
theorem log_lt {b : Int} (h : b < 2 ^ 64) (h0 : 0 < b) : b.natAbs.log2 < 9000 := by
  have h1 : b.natAbs < 2 ^ 64 := by omega
  have h2 : b.natAbs ≠ 0 := by omega
  have := (Nat.log2_lt h2).mpr h1
  omega
theorem div_e {a b : Int} (h0 : 0 < b) (h : b < 2 ^ 64) : fdivD (.int a) (.int b) = some (.fz (.int (a / b))) := by
  simp [fdivD, h0, log_lt h h0]
theorem mod_e {a b : Int} (h0 : 0 < b) : modD (.int a) (.int b) = some (.fz (.int (a % b))) := by
  simp [modD, h0]
theorem eq_int {a b : Int} : eqD (.int a) (.int b) = some (decide (a = b)) := by
  show (if depG (.int a) (.int b) = true then some (PyData.eqv (.int a) (.int b)) else none) = _
  rw [if_pos (by simp [depG, PyData.depth])]
  unfold PyData.eqv
  rfl
theorem eq_str {a b : Str} : eqD (.str a) (.str b) = some (a == b) := by
  show (if depG (.str a) (.str b) = true then some (PyData.eqv (.str a) (.str b)) else none) = _
  rw [if_pos (by simp [depG, PyData.depth])]
  unfold PyData.eqv
  rfl
theorem eq_bool {a b : Bool} : eqD (.bool a) (.bool b) = some (a == b) := by
  show (if depG (.bool a) (.bool b) = true then some (PyData.eqv (.bool a) (.bool b)) else none) = _
  rw [if_pos (by simp [depG, PyData.depth])]
  unfold PyData.eqv
  rfl
theorem dep_ints : ∀ l : List Int, PyData.depthAll (l.map .int) ≤ 1
  | [] => by simp [PyData.depthAll]
  | x :: l => by
    have := dep_ints l
    simp only [List.map_cons, PyData.depthAll, PyData.depth]
    omega
theorem eqv_ints : ∀ a b : List Int, PyData.eqvAll (a.map .int) (b.map .int) = decide (a = b)
  | [], [] => by simp [PyData.eqvAll]
  | [], _ :: _ => by simp [PyData.eqvAll]
  | _ :: _, [] => by simp [PyData.eqvAll]
  | x :: a, y :: b => by
    simp only [List.map_cons, PyData.eqvAll, eqv_ints a b, PyData.eqv]
    by_cases h : x = y <;> by_cases h2 : a = b <;> simp [h, h2]
theorem eq_ints {a b : List Int} : eqD (.list (a.map .int)) (.list (b.map .int)) = some (decide (a = b)) := by
  show (if depG (.list (a.map .int)) (.list (b.map .int)) = true then some (PyData.eqv (.list (a.map .int)) (.list (b.map .int))) else none) = _
  rw [if_pos (by unfold depG; have := dep_ints a; simp only [PyData.depth]; apply decide_eq_true; omega)]
  unfold PyData.eqv
  rw [eqv_ints]
theorem closeds_ints : ∀ l : List Int, closeds (l.map fun i => .fz (.int i)) = true
  | [] => rfl
  | i :: l => by simp [closeds, closed, closedD, closeds_ints l]
theorem atI_nat {α : Type} {xs : List α} {i : Nat} : atI xs (i : Int) = xs[i]? := by
  unfold atI ixN
  rw [if_pos (by omega)]
  by_cases h : i < xs.length
  · rw [if_pos (by omega)]; simp
  · rw [if_neg (by omega)]; simp; omega
theorem rng_1 {hi : Int} (h : hi ≤ 16777216) (h2 : -(2 ^ 62) ≤ hi) : rngD [.int hi] = some (rngL 0 hi) := by simp only [rngD]; rw [if_pos ⟨h, h2⟩]
theorem rng_2 {lo hi : Int} (h1 : -(2 ^ 61) ≤ lo ∧ lo < 2 ^ 61) (h2 : -(2 ^ 61) ≤ hi ∧ hi < 2 ^ 61) (h3 : hi - lo ≤ 16777216) : rngD [.int lo, .int hi] = some (rngL lo hi) := by
  simp only [rngD]; rw [if_pos ⟨h1, h2, h3⟩]
/-- the whole numbers from lo to hi -/
def rgI (lo hi : Int) : List Int := (List.range (hi - lo).toNat).map fun (i : Nat) => lo + (i : Int)
theorem rngL_eq (lo hi : Int) : rngL lo hi = (rgI lo hi).map .int := by simp [rngL, rgI, Function.comp_def]
theorem mem_rgI {lo hi x : Int} : x ∈ rgI lo hi ↔ lo ≤ x ∧ x < hi := by
  unfold rgI
  rw [List.mem_map]
  constructor
  · rintro ⟨i, hi, rfl⟩
    rw [List.mem_range] at hi
    omega
  · intro ⟨h1, h2⟩
    exact ⟨(x - lo).toNat, List.mem_range.mpr (by omega), by omega⟩
theorem rgI_len (lo hi : Int) : (rgI lo hi).length = (hi - lo).toNat := by simp [rgI]
theorem bd_nm {i : Nat} {d : PyData} {env : Env} : bdG (.nm i) d env = if i < env.length then some (env.set i (some (.fz d))) else none := rfl
theorem bd_tp {is : List Nat} {d : PyData} {env : Env} : bdG (.tp is) d env = bdT is.length (bdsN is) d env := rfl
/-- a comprehension over what an environment stays fixed for -/
theorem compL_fm {α : Type} {bd : PyData → Env → Option Env} {tc : M Bool} {me : M OV} {vs : List Nat} {env : Env} {g : α → PyData} (p : α → Bool) (f : α → OV) : ∀ (l : List α),
    (∀ x, x ∈ l → ∃ e1 e2, bd (g x) env = some e1 ∧ tc e1 = .ok (p x) e2 ∧ (if p x = true then ∃ e3, me e2 = .ok (f x) e3 ∧ wipeE e3 vs = env else wipeE e2 vs = env)) →
    compL bd tc me vs (l.map g) env = .ok ((l.filter p).map f) env
  | [], _ => by simp [compL]
  | x :: l, h => by
    obtain ⟨e1, e2, h1, h2, h3⟩ := h x List.mem_cons_self
    have ih := compL_fm p f l fun y hy => h y (List.mem_cons_of_mem _ hy)
    rw [List.map_cons]
    unfold compL
    rw [h1]; simp only []
    rw [h2]
    by_cases hp : p x = true
    · rw [if_pos hp] at h3
      obtain ⟨e3, h3, h4⟩ := h3
      rw [hp]; simp only []
      rw [h3]; simp only []
      rw [h4, ih, List.filter_cons_of_pos hp]
      rfl
    · rw [if_neg hp] at h3
      have hp' : p x = false := by simpa using hp
      rw [hp']; simp only []
      rw [h3, ih, List.filter_cons_of_neg hp]
/-- a comprehension whose turns change the environment: an invariant over what is done, and what has come -/
theorem compL_inv {α : Type} {bd : PyData → Env → Option Env} {tc : M Bool} {me : M OV} {vs : List Nat} {g : α → PyData} (I : List α → List OV → Env → Prop) : ∀ (l done : List α) (acc : List OV) (env : Env), I done acc env →
    (∀ d a x r env, d ++ x :: r = done ++ l → I d a env → ∃ e1 e2 b, bd (g x) env = some e1 ∧ tc e1 = .ok b e2 ∧ (if b = true then ∃ y e3, me e2 = .ok y e3 ∧ I (d ++ [x]) (a ++ [y]) (wipeE e3 vs) else I (d ++ [x]) a (wipeE e2 vs))) →
    ∃ ys env', compL bd tc me vs (l.map g) env = .ok ys env' ∧ I (done ++ l) (acc ++ ys) env'
  | [], done, acc, env, h, _ => ⟨[], env, by simp [compL], by simpa using h⟩
  | x :: l, done, acc, env, h, st => by
    obtain ⟨e1, e2, b, h1, h2, h3⟩ := st done acc x l env rfl h
    rw [List.map_cons]
    unfold compL
    rw [h1]; simp only []
    rw [h2]
    cases b with
    | true =>
      rw [if_pos rfl] at h3
      obtain ⟨y, e3, h3, h4⟩ := h3
      obtain ⟨ys, e', h5, h6⟩ := compL_inv I l (done ++ [x]) (acc ++ [y]) (wipeE e3 vs) h4 fun d a z r env e => st d a z r env (by rw [e]; simp)
      refine ⟨y :: ys, e', ?_, by simpa using h6⟩
      simp only []
      rw [h3]; simp only []
      rw [h5]; rfl
    | false =>
      rw [if_neg Bool.false_ne_true] at h3
      obtain ⟨ys, e', h5, h6⟩ := compL_inv I l (done ++ [x]) acc (wipeE e2 vs) h3 fun d a z r env e => st d a z r env (by rw [e]; simp)
      exact ⟨ys, e', h5, by simpa using h6⟩
/-- a loop: an invariant over what is done and what is left -/
theorem forL_inv {α : Type} {bd : PyData → Env → Option Env} {mb : MS} {g : α → PyData} (I : List α → Env → Prop) : ∀ (l done : List α) (env : Env),
    I done env → (∀ d x r env, d ++ x :: r = done ++ l → I d env → ∃ e1 e2, bd (g x) env = some e1 ∧ mb e1 = .nx e2 ∧ I (d ++ [x]) e2) →
    ∃ env', forL bd mb (l.map g) env = .nx env' ∧ I (done ++ l) env'
  | [], done, env, h, _ => ⟨env, by simp [forL], by simpa using h⟩
  | x :: l, done, env, h, st => by
    obtain ⟨e1, e2, h1, h2, h3⟩ := st done x l env rfl h
    obtain ⟨e', h4, h5⟩ := forL_inv I l (done ++ [x]) e2 h3 fun d y r env e => st d y r env (by rw [e]; simp)
    refine ⟨e', ?_, by simpa using h5⟩
    rw [List.map_cons]
    unfold forL
    rw [h1]; simp only []
    rw [h2]
    exact h4
theorem add_int {a b : Int} : addD (.int a) (.int b) = some (.fz (.int (a + b))) := rfl
theorem sub_int {a b : Int} : subD (.int a) (.int b) = some (.fz (.int (a - b))) := rfl
theorem neg_int {a : Int} : negD (.int a) = some (.fz (.int (-a))) := rfl
theorem lt_int {a b : Int} : ltD (.int a) (.int b) = some (decide (a < b)) := rfl
theorem le_int {a b : Int} : leD (.int a) (.int b) = some (decide (a ≤ b)) := rfl
theorem gt_int {a b : Int} : gtD (.int a) (.int b) = some (decide (b < a)) := rfl
theorem ge_int {a b : Int} : geD (.int a) (.int b) = some (decide (b ≤ a)) := rfl
theorem ix_l {xs : List PyData} {i : Int} : ixD (.list xs) (.int i) = atI xs i := rfl
theorem ix_t {xs : List PyData} {i : Int} : ixD (.tuple xs) (.int i) = atI xs i := rfl
theorem ix_s {x : Str} {i : Int} : ixD (.str x) (.int i) = (atI x.cps.toList i).map fun c => .str ⟨#[c]⟩ := rfl
theorem bf_len_l {ds : List PyData} : bfD .len [.list ds] = some (.fz (.int (ds.length : Int))) := rfl
theorem bf_len_t {ds : List PyData} : bfD .len [.tuple ds] = some (.fz (.int (ds.length : Int))) := rfl
theorem bf_len_s {x : Str} : bfD .len [.str x] = some (.fz (.int (x.length : Int))) := rfl
theorem bf_abs {i : Int} : bfD .abs [.int i] = some (.fz (.int (if i < 0 then -i else i))) := rfl
theorem bf_int {i : Int} : bfD .int [.int i] = some (.fz (.int i)) := rfl
theorem bf_intb {b : Bool} : bfD .int [.bool b] = some (.fz (.int (if b = true then 1 else 0))) := rfl
def chainK (h : PyData → PyData → Option Bool) (mc : M PyData) (db : PyData) (e2 : Env) : Option Bool → Rs Bool
  | some true => (mc e2).bind fun dc e3 => (match h db dc with
    | some r => .ok r e3
    | none => .bad)
  | some false => .ok false e2
  | none => .bad
theorem chainK_b {h : PyData → PyData → Option Bool} {mc : M PyData} {db : PyData} {e2 : Env} {r : Bool} : chainK h mc db e2 (some r) = if r = true then (mc e2).bind fun dc e3 => oB (h db dc) e3 else .ok false e2 := by cases r <;> rfl
theorem chain2_eq {ma mb mc : M PyData} {g h : PyData → PyData → Option Bool} {env : Env} : chain2 ma mb mc g h env = (ma env).bind fun da e1 => (mb e1).bind fun db e2 => chainK h mc db e2 (g da db) := by
  unfold chain2 chainK
  rfl
theorem bf_max2 {i j : Int} : bfD .max [.int i, .int j] = some (.fz (.int (if j > i then j else i))) := rfl
theorem bf_min2 {i j : Int} : bfD .min [.int i, .int j] = some (.fz (.int (if j < i then j else i))) := rfl
theorem bf_list_l {ds : List PyData} : bfD .list [.list ds] = some (.ol (ds.map .fz)) := rfl
theorem bf_list_t {ds : List PyData} : bfD .list [.tuple ds] = some (.ol (ds.map .fz)) := rfl
theorem bf_tup_l {ds : List PyData} : bfD .tuple [.list ds] = some (.fz (.tuple ds)) := rfl
theorem it_l {ds : List PyData} : itD (.list ds) = some ds := rfl
theorem it_t {ds : List PyData} : itD (.tuple ds) = some ds := rfl
theorem it_s {x : Str} : itD (.str x) = some (signs x) := rfl
theorem iop_add {i j : Int} : iopD .Add (.int i) (.int j) = some (.int (i + j)) := rfl
theorem iop_sub {i j : Int} : iopD .Sub (.int i) (.int j) = some (.int (i - j)) := rfl
theorem ints_ok : ∀ l : List Int, intsOf (l.map .int) = some l
  | [] => rfl
  | i :: l => by simp [intsOf, ints_ok l]
theorem bf_sum {l : List Int} : bfD .sum [.list (l.map .int)] = some (.fz (.int l.sum)) := by
  show (intsOf (l.map .int)).map _ = _
  rw [ints_ok]; rfl
theorem outs_nil {e : Env} : outsR [] e = [] := by unfold outsR; rfl
theorem outs_fz {d : PyData} {os : List OV} {e : Env} : outsR (.fz d :: os) e = none :: outsR os e.tail := by cases e <;> rfl
theorem outs_c {o : OV} {os : List OV} {x : Option OV} {e : Env} : outsR (o :: os) (x :: e) = (if lent o = true then x else none) :: outsR os e := rfl
theorem frzK_olI {i : Nat} {vs : List Nat} {e : Env} {l : List Int} : frzK i vs e (some (some (olI l))) = frzE vs (e.set i (some (.fz (.list (l.map .int))))) := by
  unfold olI; rw [frzK_ol, dsOf_ints, frzK2_s]
theorem rdV_olI {i : Nat} {e : Env} {l : List Int} : rdV (some (some (olI l))) i e = .ok (.fz (.list (l.map .int))) (e.set i (some (.fz (.list (l.map .int))))) := by
  unfold olI; rw [rdV_ol, dsOf_ints, rdV2_some]
theorem mvV_olI {i : Nat} {e : Env} {l : List Int} : mvV (some (some (olI l))) i e = .ok (olI l) (e.set i none) := rfl
theorem olO_olI {l : List Int} : olO (some (some (olI l))) = some (l.map fun i => .fz (.int i)) := rfl
theorem lent_olI {l : List Int} : lent (olI l) = true := rfl
theorem closed_olI {l : List Int} : closed (olI l) = true := by
  unfold olI closed; exact closeds_ints l
theorem olI_app {l : List Int} {x : Int} : OV.ol ((l.map fun i => .fz (.int i)) ++ [.fz (.int x)]) = olI (l ++ [x]) := by simp [olI]
theorem olI_nil : OV.ol [] = olI [] := rfl
/-! ### the script's feed -/
def feedV (ns : List Int) (i big seed : Int) : OV := .ol [olI ns, .fz (.int i), .fz (.int big), .fz (.int seed)]
def IsFeed (o : OV) : Prop := ∃ (ns : List Int) (i big seed : Int), o = feedV ns i big seed ∧ 0 ≤ i ∧ 0 ≤ big ∧ 0 ≤ seed ∧ seed < 2147483647
def bod__law_feed : Sts := (.cons (.ret (.lst (.cons (.lsc 0) (.cons (.int 0) (.cons (.int 0) (.cons (.int 1) .nil)))))) .nil)
def rho__law_feed : Rho := fun _ _ => .bad
def den__law_feed : Den := runB 1 1 [0] (exs rho__law_feed [0] bod__law_feed)
def bodT : Sts := (.cons (.iff (.bw [0] [1, 2, 3, 4] (.cmp .Gt (.ix (.var 0) (.int 2)) (.int 0))) (.cons (.asg 4 (.bw [0, 1] [2, 3, 4] (.bin .Mod (.blt .int (.cons (.ix (.var 0) (.int 2)) .nil)) (.var 1)))) (.cons (.set 0 (.int 2) (.bw [0, 1] [2, 3, 4] (.bin .FloorDiv (.ix (.var 0) (.int 2)) (.var 1)))) (.cons (.ret (.var 4)) .nil))) .nil) (.cons (.set 0 (.int 3) (.bw [0] [1, 2, 3, 4] (.bin .Mod (.blt .int (.cons (.bin .Add (.bin .Mult (.ix (.var 0) (.int 3)) (.int 16807)) (.int 12345)) .nil)) (.int 2147483647)))) (.cons (.asg 2 (.bw [0] [1, 2, 3, 4] (.bin .Mod (.blt .int (.cons (.bin .Add (.bin .Mult (.ix (.var 0) (.int 3)) (.ix (.var 0) (.int 3))) (.ix (.var 0) (.int 3))) .nil)) (.int 2147483629)))) (.cons (.ret (.bin .Mod (.bin .FloorDiv (.var 2) (.int 11)) (.var 1))) .nil))))
def bod__law_draw : Sts := (.cons (.iff (.bw [0] [1, 2, 3, 4] (.and (.cmp .Eq (.ix (.var 0) (.int 2)) (.int 0)) (.one (.cmp .Lt (.ix (.var 0) (.int 1)) (.blt .len (.cons (.ix (.var 0) (.int 0)) .nil)))))) (.cons (.asg 3 (.bw [0] [1, 2, 3, 4] (.blt .abs (.cons (.blt .int (.cons (.ix (.ix (.var 0) (.int 0)) (.ix (.var 0) (.int 1))) .nil)) .nil)))) (.cons (.augS 0 .Add (.int 1) (.int 1)) (.cons (.iff (.cmp .GtE (.var 3) (.bin .Pow (.int 10) (.int 18))) (.cons (.set 0 (.int 2) (.var 3)) .nil) (.cons (.set 0 (.int 3) (.bw [0, 3] [1, 2, 4] (.bin .Mod (.blt .int (.cons (.bin .Add (.bin .Add (.bin .Mult (.ix (.var 0) (.int 3)) (.int 48271)) (.bin .Mult (.var 3) (.int 69621))) (.ix (.var 0) (.int 1))) .nil)) (.int 2147483647)))) .nil)) .nil))) .nil) bodT)
def rho__law_draw : Rho := fun _ _ => .bad
def den__law_draw : Den := runB 2 5 [0] (exs rho__law_draw [0] bod__law_draw)
theorem feed_ok (ns : List Int) (h : ns.length ≤ 63) : ∃ o outs, den__law_feed [.sc ns] = .ok o [outs] ∧ IsFeed o := by
  have h2 : ns.length ≤ sizeLine := Nat.le_trans h (by decide)
  refine ⟨feedV ns 0 0 1, some (.sc ns), ?_, ns, 0, 0, 1, rfl, by decide, by decide, by decide, by decide⟩
  have h3 : 4 ≤ sizeLine := by decide
  simp [den__law_feed, bod__law_feed, Vi.bind_ok, Vi.bind_bad, Vi.bind_ex, Vi.so_ok, Vi.sb_nx, Vi.sb_ret, Vi.sb_bad, Vi.d_fz, Vi.d_olI, Vi.d_ol, Vi.o_some, Vi.tst_b, Vi.tst_i, Vi.tst_l, Vi.tst_s, Vi.tst_n, Vi.oB_some, Vi.oP_some, Vi.oL_some, Vi.rdV_fz, Vi.rdV_ol, Vi.rdV2_some, Vi.mvV_ol, Vi.mvV_fz, Vi.rdVar_c, Vi.ev_var, Vi.ev_mv, Vi.ev_int, Vi.ev_bl, Vi.ev_non, Vi.ev_str, Vi.ev_gi, Vi.ev_gs, Vi.ev_bin, Vi.ev_neg, Vi.ev_cmp, Vi.evT_cmp, Vi.ev_chain, Vi.ev_one, Vi.andK_b, Vi.orK_b, Vi.notK_b, Vi.ev_and, Vi.ev_or, Vi.ev_not, Vi.isB_b, Vi.ev_ite, Vi.ev_tup, Vi.ev_lst, Vi.ev_ix, Vi.ev_slc, Vi.evP_no, Vi.evP_yes, Vi.ev_call, Vi.calK_some, Vi.calR_ok, Vi.evA_nil, Vi.evA_e, Vi.evA_o, Vi.args_nil, Vi.args_e, Vi.args_o, Vi.argK_s, Vi.asm_nil, Vi.asm_e, Vi.asm_o, Vi.asmK_s, Vi.lent_ol, Vi.lent_sc, Vi.lent_fz, Vi.put_nil, Vi.put_e, Vi.put_o, Vi.ev_blt, Vi.ev_isi, Vi.ev_lsc, Vi.lscK_s, Vi.cmpK_ok, Vi.ev_lc, Vi.evC_no, Vi.evC_yes, Vi.evI_e, Vi.evI_r1, Vi.evI_r2, Vi.evs_nil, Vi.evs_cons, Vi.evO_nil, Vi.evO_cons, Vi.olO_s, Vi.olOf_c, Vi.appK_s, Vi.appK2_s, Vi.ev_app, Vi.ev_mt, Vi.evT_mt, Vi.appNK_s, Vi.ev_appN, Vi.inOf_c, Vi.inK_s, Vi.inK2_s, Vi.mvixK_s, Vi.ev_mvix, Vi.ev_rev, Vi.ev_repC, Vi.evT_rev, Vi.evI_en, Vi.evI_rv, Vi.evI_rg, Vi.rgK_s, Vi.asgTK_s, Vi.ex_asgT, Vi.bwsK_nx, Vi.bwsK_ret, Vi.ex_bws, Vi.ex_rais, Vi.tryK_nx, Vi.tryK_ret, Vi.ex_try, Vi.so_ex, Vi.sb_ex, Vi.d_ex, Vi.runK_ex, Vi.calR_ex, Vi.keepE, Vi.cloF, Vi.closedR, Vi.bwK_ok, Vi.ev_bw, Vi.bwK'_ok, Vi.evT_bw, Vi.evT_chain, Vi.evT_one, Vi.evT_and, Vi.evT_or, Vi.evT_not, Vi.evT_var, Vi.evT_call, Vi.evT_isi, Vi.evT_blt, Vi.evT_ix, Vi.evT_bin, Vi.evT_bl, Vi.ex_pass, Vi.ex_asg, Vi.ex_expr, Vi.ex_ret, Vi.ex_retN, Vi.ex_if, Vi.ex_for, Vi.setK_s, Vi.setK2_s, Vi.setK3_s, Vi.ex_set, Vi.ex_aug, Vi.ex_augS, Vi.augM, Vi.augSM, Vi.exs_nil, Vi.exs_cons, Vi.run_b, Vi.runK_ret, Vi.runK_nx, Vi.frzE_nil, Vi.frz_cons, Vi.frzK_ol, Vi.frzK2_s, Vi.frzK_fz, Vi.frzK_no, Vi.frzK_olI, Vi.rdV_olI, Vi.mvV_olI, Vi.olO_olI, Vi.lent_olI, Vi.closed_olI, Vi.dOf_fz, Vi.dOf_olI, Vi.dOf_olI', Vi.dsOf_fz, Vi.dsOf_ints, Vi.dsOf_nil, Vi.dsOf_cons, Option.map_some, Vi.binD, Vi.add_int, Vi.sub_int, Vi.cmpD, Vi.lt_int, Vi.le_int, Vi.gt_int, Vi.ge_int, Vi.neg_int, Vi.bf_len_l, Vi.bf_len_t, Vi.bf_len_s, Vi.bf_abs, Vi.bf_int, Vi.bf_intb, Vi.bf_max2, Vi.bf_min2, Vi.bf_list_l, Vi.bf_list_t, Vi.bf_tup_l, Vi.bf_sum, Vi.ix_l, Vi.ix_t, Vi.ix_s, Vi.isiD, Vi.chain2_eq, Vi.chainK_b, Vi.iop_add, Vi.iop_sub, Vi.it_l, Vi.it_t, Vi.it_s, Vi.lentOk, Vi.outs_nil, Vi.outs_fz, Vi.outs_c, List.tail_cons, Vi.killE, Vi.noOwn, Vi.closed, Vi.closeds, Vi.closedD, Vi.closeds_ints, Vi.wipeE, Vi.resE, Vi.bd_nm, Vi.bd_tp, Vi.bdN, Vi.bdT, Vi.bdsN, Vi.bdNil, Vi.bdCons, Vi.Tg.js, Vi.partM, Vi.eq_int, Vi.eq_str, Vi.eq_bool, Vi.eq_ints, h2, h3, feedV, olI]
theorem at0 {α : Type} {a b c d : α} : atI [a, b, c, d] 0 = some a := rfl
theorem at1 {α : Type} {a b c d : α} : atI [a, b, c, d] 1 = some b := rfl
theorem at2 {α : Type} {a b c d : α} : atI [a, b, c, d] 2 = some c := rfl
theorem at3 {α : Type} {a b c d : α} : atI [a, b, c, d] 3 = some d := rfl
theorem ixN1 : ixN 4 1 = some 1 := rfl
theorem ixN2 : ixN 4 2 = some 2 := rfl
theorem ixN3 : ixN 4 3 = some 3 := rfl
theorem draw2_ok {ns : List Int} {i big seed many : Int} {c : Option OV} (hi : 0 ≤ i) (hb : 0 ≤ big) (hs : 0 ≤ seed) (hs2 : seed < 2147483647) (hm : 0 < many) (hm2 : many < 2 ^ 64) :
    ∃ (r : Int) (e1 : Option OV) (e2 : List (Option OV)) (o' : OV), 0 ≤ r ∧ r < many ∧ IsFeed o' ∧ exs rho__law_draw [0] bodT [some (feedV ns i big seed), some (.fz (.int many)), none, c, none] = .ret (.fz (.int r)) (some o' :: e1 :: e2) := by
  have d1 : ∀ a, fdivD (.int a) (.int many) = some (.fz (.int (a / many))) := fun a => div_e hm hm2
  have d2 : ∀ a, modD (.int a) (.int many) = some (.fz (.int (a % many))) := fun a => mod_e hm
  have d3 : ∀ a, modD (.int a) (.int 2147483647) = some (.fz (.int (a % 2147483647))) := fun a => mod_e (by decide)
  have d4 : ∀ a, modD (.int a) (.int 2147483629) = some (.fz (.int (a % 2147483629))) := fun a => mod_e (by decide)
  have d5 : ∀ a, fdivD (.int a) (.int 11) = some (.fz (.int (a / 11))) := fun a => div_e (by decide) (by decide)
  have d6 : ∀ a, mulD (.int a) (.int 16807) = some (.fz (.int (a * 16807))) := fun a => mul_r (by decide)
  have d7 : ∀ a b : Int, mulD (.int (a % 2147483647)) (.int b) = some (.fz (.int (a % 2147483647 * b))) := fun a b => mul_l (by omega)
  by_cases hg : 0 < big
  · refine ⟨big % many, some (.fz (.int many)), [none, c, some (.fz (.int (big % many)))], feedV ns i (big / many) seed, Int.emod_nonneg _ (by omega), Int.emod_lt_of_pos _ hm, ⟨ns, i, big / many, seed, rfl, hi, Int.ediv_nonneg hb (by omega), hs, hs2⟩, ?_⟩
    simp [bodT, Vi.bind_ok, Vi.bind_bad, Vi.bind_ex, Vi.so_ok, Vi.sb_nx, Vi.sb_ret, Vi.sb_bad, Vi.d_fz, Vi.d_olI, Vi.d_ol, Vi.o_some, Vi.tst_b, Vi.tst_i, Vi.tst_l, Vi.tst_s, Vi.tst_n, Vi.oB_some, Vi.oP_some, Vi.oL_some, Vi.rdV_fz, Vi.rdV_ol, Vi.rdV2_some, Vi.mvV_ol, Vi.mvV_fz, Vi.rdVar_c, Vi.ev_var, Vi.ev_mv, Vi.ev_int, Vi.ev_bl, Vi.ev_non, Vi.ev_str, Vi.ev_gi, Vi.ev_gs, Vi.ev_bin, Vi.ev_neg, Vi.ev_cmp, Vi.evT_cmp, Vi.ev_chain, Vi.ev_one, Vi.andK_b, Vi.orK_b, Vi.notK_b, Vi.ev_and, Vi.ev_or, Vi.ev_not, Vi.isB_b, Vi.ev_ite, Vi.ev_tup, Vi.ev_lst, Vi.ev_ix, Vi.ev_slc, Vi.evP_no, Vi.evP_yes, Vi.ev_call, Vi.calK_some, Vi.calR_ok, Vi.evA_nil, Vi.evA_e, Vi.evA_o, Vi.args_nil, Vi.args_e, Vi.args_o, Vi.argK_s, Vi.asm_nil, Vi.asm_e, Vi.asm_o, Vi.asmK_s, Vi.lent_ol, Vi.lent_sc, Vi.lent_fz, Vi.put_nil, Vi.put_e, Vi.put_o, Vi.ev_blt, Vi.ev_isi, Vi.ev_lsc, Vi.lscK_s, Vi.cmpK_ok, Vi.ev_lc, Vi.evC_no, Vi.evC_yes, Vi.evI_e, Vi.evI_r1, Vi.evI_r2, Vi.evs_nil, Vi.evs_cons, Vi.evO_nil, Vi.evO_cons, Vi.olO_s, Vi.olOf_c, Vi.appK_s, Vi.appK2_s, Vi.ev_app, Vi.ev_mt, Vi.evT_mt, Vi.appNK_s, Vi.ev_appN, Vi.inOf_c, Vi.inK_s, Vi.inK2_s, Vi.mvixK_s, Vi.ev_mvix, Vi.ev_rev, Vi.ev_repC, Vi.evT_rev, Vi.evI_en, Vi.evI_rv, Vi.evI_rg, Vi.rgK_s, Vi.asgTK_s, Vi.ex_asgT, Vi.bwsK_nx, Vi.bwsK_ret, Vi.ex_bws, Vi.ex_rais, Vi.tryK_nx, Vi.tryK_ret, Vi.ex_try, Vi.so_ex, Vi.sb_ex, Vi.d_ex, Vi.runK_ex, Vi.calR_ex, Vi.keepE, Vi.cloF, Vi.closedR, Vi.bwK_ok, Vi.ev_bw, Vi.bwK'_ok, Vi.evT_bw, Vi.evT_chain, Vi.evT_one, Vi.evT_and, Vi.evT_or, Vi.evT_not, Vi.evT_var, Vi.evT_call, Vi.evT_isi, Vi.evT_blt, Vi.evT_ix, Vi.evT_bin, Vi.evT_bl, Vi.ex_pass, Vi.ex_asg, Vi.ex_expr, Vi.ex_ret, Vi.ex_retN, Vi.ex_if, Vi.ex_for, Vi.setK_s, Vi.setK2_s, Vi.setK3_s, Vi.ex_set, Vi.ex_aug, Vi.ex_augS, Vi.augM, Vi.augSM, Vi.exs_nil, Vi.exs_cons, Vi.run_b, Vi.runK_ret, Vi.runK_nx, Vi.frzE_nil, Vi.frz_cons, Vi.frzK_ol, Vi.frzK2_s, Vi.frzK_fz, Vi.frzK_no, Vi.frzK_olI, Vi.rdV_olI, Vi.mvV_olI, Vi.olO_olI, Vi.lent_olI, Vi.closed_olI, Vi.dOf_fz, Vi.dOf_olI, Vi.dOf_olI', Vi.dsOf_fz, Vi.dsOf_ints, Vi.dsOf_nil, Vi.dsOf_cons, Option.map_some, Vi.binD, Vi.add_int, Vi.sub_int, Vi.cmpD, Vi.lt_int, Vi.le_int, Vi.gt_int, Vi.ge_int, Vi.neg_int, Vi.bf_len_l, Vi.bf_len_t, Vi.bf_len_s, Vi.bf_abs, Vi.bf_int, Vi.bf_intb, Vi.bf_max2, Vi.bf_min2, Vi.bf_list_l, Vi.bf_list_t, Vi.bf_tup_l, Vi.bf_sum, Vi.ix_l, Vi.ix_t, Vi.ix_s, Vi.isiD, Vi.chain2_eq, Vi.chainK_b, Vi.iop_add, Vi.iop_sub, Vi.it_l, Vi.it_t, Vi.it_s, Vi.lentOk, Vi.outs_nil, Vi.outs_fz, Vi.outs_c, List.tail_cons, Vi.killE, Vi.noOwn, Vi.closed, Vi.closeds, Vi.closedD, Vi.closeds_ints, Vi.wipeE, Vi.resE, Vi.bd_nm, Vi.bd_tp, Vi.bdN, Vi.bdT, Vi.bdsN, Vi.bdNil, Vi.bdCons, Vi.Tg.js, Vi.partM, Vi.eq_int, Vi.eq_str, Vi.eq_bool, Vi.eq_ints, feedV, at0, at1, at2, at3, d1, d2, hg, ixN2]
  · have h0 : big = 0 := by omega
    subst h0
    refine ⟨((seed * 16807 + 12345) % 2147483647 * ((seed * 16807 + 12345) % 2147483647) + (seed * 16807 + 12345) % 2147483647) % 2147483629 / 11 % many, some (.fz (.int many)), [some (.fz (.int (((seed * 16807 + 12345) % 2147483647 * ((seed * 16807 + 12345) % 2147483647) + (seed * 16807 + 12345) % 2147483647) % 2147483629))), c, none], feedV ns i 0 ((seed * 16807 + 12345) % 2147483647), Int.emod_nonneg _ (by omega), Int.emod_lt_of_pos _ hm, ⟨ns, i, 0, (seed * 16807 + 12345) % 2147483647, rfl, hi, by omega, by omega, by omega⟩, ?_⟩
    simp [bodT, Vi.bind_ok, Vi.bind_bad, Vi.bind_ex, Vi.so_ok, Vi.sb_nx, Vi.sb_ret, Vi.sb_bad, Vi.d_fz, Vi.d_olI, Vi.d_ol, Vi.o_some, Vi.tst_b, Vi.tst_i, Vi.tst_l, Vi.tst_s, Vi.tst_n, Vi.oB_some, Vi.oP_some, Vi.oL_some, Vi.rdV_fz, Vi.rdV_ol, Vi.rdV2_some, Vi.mvV_ol, Vi.mvV_fz, Vi.rdVar_c, Vi.ev_var, Vi.ev_mv, Vi.ev_int, Vi.ev_bl, Vi.ev_non, Vi.ev_str, Vi.ev_gi, Vi.ev_gs, Vi.ev_bin, Vi.ev_neg, Vi.ev_cmp, Vi.evT_cmp, Vi.ev_chain, Vi.ev_one, Vi.andK_b, Vi.orK_b, Vi.notK_b, Vi.ev_and, Vi.ev_or, Vi.ev_not, Vi.isB_b, Vi.ev_ite, Vi.ev_tup, Vi.ev_lst, Vi.ev_ix, Vi.ev_slc, Vi.evP_no, Vi.evP_yes, Vi.ev_call, Vi.calK_some, Vi.calR_ok, Vi.evA_nil, Vi.evA_e, Vi.evA_o, Vi.args_nil, Vi.args_e, Vi.args_o, Vi.argK_s, Vi.asm_nil, Vi.asm_e, Vi.asm_o, Vi.asmK_s, Vi.lent_ol, Vi.lent_sc, Vi.lent_fz, Vi.put_nil, Vi.put_e, Vi.put_o, Vi.ev_blt, Vi.ev_isi, Vi.ev_lsc, Vi.lscK_s, Vi.cmpK_ok, Vi.ev_lc, Vi.evC_no, Vi.evC_yes, Vi.evI_e, Vi.evI_r1, Vi.evI_r2, Vi.evs_nil, Vi.evs_cons, Vi.evO_nil, Vi.evO_cons, Vi.olO_s, Vi.olOf_c, Vi.appK_s, Vi.appK2_s, Vi.ev_app, Vi.ev_mt, Vi.evT_mt, Vi.appNK_s, Vi.ev_appN, Vi.inOf_c, Vi.inK_s, Vi.inK2_s, Vi.mvixK_s, Vi.ev_mvix, Vi.ev_rev, Vi.ev_repC, Vi.evT_rev, Vi.evI_en, Vi.evI_rv, Vi.evI_rg, Vi.rgK_s, Vi.asgTK_s, Vi.ex_asgT, Vi.bwsK_nx, Vi.bwsK_ret, Vi.ex_bws, Vi.ex_rais, Vi.tryK_nx, Vi.tryK_ret, Vi.ex_try, Vi.so_ex, Vi.sb_ex, Vi.d_ex, Vi.runK_ex, Vi.calR_ex, Vi.keepE, Vi.cloF, Vi.closedR, Vi.bwK_ok, Vi.ev_bw, Vi.bwK'_ok, Vi.evT_bw, Vi.evT_chain, Vi.evT_one, Vi.evT_and, Vi.evT_or, Vi.evT_not, Vi.evT_var, Vi.evT_call, Vi.evT_isi, Vi.evT_blt, Vi.evT_ix, Vi.evT_bin, Vi.evT_bl, Vi.ex_pass, Vi.ex_asg, Vi.ex_expr, Vi.ex_ret, Vi.ex_retN, Vi.ex_if, Vi.ex_for, Vi.setK_s, Vi.setK2_s, Vi.setK3_s, Vi.ex_set, Vi.ex_aug, Vi.ex_augS, Vi.augM, Vi.augSM, Vi.exs_nil, Vi.exs_cons, Vi.run_b, Vi.runK_ret, Vi.runK_nx, Vi.frzE_nil, Vi.frz_cons, Vi.frzK_ol, Vi.frzK2_s, Vi.frzK_fz, Vi.frzK_no, Vi.frzK_olI, Vi.rdV_olI, Vi.mvV_olI, Vi.olO_olI, Vi.lent_olI, Vi.closed_olI, Vi.dOf_fz, Vi.dOf_olI, Vi.dOf_olI', Vi.dsOf_fz, Vi.dsOf_ints, Vi.dsOf_nil, Vi.dsOf_cons, Option.map_some, Vi.binD, Vi.add_int, Vi.sub_int, Vi.cmpD, Vi.lt_int, Vi.le_int, Vi.gt_int, Vi.ge_int, Vi.neg_int, Vi.bf_len_l, Vi.bf_len_t, Vi.bf_len_s, Vi.bf_abs, Vi.bf_int, Vi.bf_intb, Vi.bf_max2, Vi.bf_min2, Vi.bf_list_l, Vi.bf_list_t, Vi.bf_tup_l, Vi.bf_sum, Vi.ix_l, Vi.ix_t, Vi.ix_s, Vi.isiD, Vi.chain2_eq, Vi.chainK_b, Vi.iop_add, Vi.iop_sub, Vi.it_l, Vi.it_t, Vi.it_s, Vi.lentOk, Vi.outs_nil, Vi.outs_fz, Vi.outs_c, List.tail_cons, Vi.killE, Vi.noOwn, Vi.closed, Vi.closeds, Vi.closedD, Vi.closeds_ints, Vi.wipeE, Vi.resE, Vi.bd_nm, Vi.bd_tp, Vi.bdN, Vi.bdT, Vi.bdsN, Vi.bdNil, Vi.bdCons, Vi.Tg.js, Vi.partM, Vi.eq_int, Vi.eq_str, Vi.eq_bool, Vi.eq_ints, feedV, at0, at1, at2, at3, d1, d2, d3, d4, d5, d6, d7, ixN3]
theorem draw_ok {o : OV} (hf : IsFeed o) {many : Int} (hm : 0 < many) (hm2 : many < 2 ^ 64) : ∃ (r : Int) (o' : OV), den__law_draw [o, .fz (.int many)] = .ok (.fz (.int r)) [some o', none] ∧ 0 ≤ r ∧ r < many ∧ IsFeed o' := by
  obtain ⟨ns, i, big, seed, rfl, hi, hb, hs, hs2⟩ := hf
  have d3 : ∀ a, modD (.int a) (.int 2147483647) = some (.fz (.int (a % 2147483647))) := fun a => mod_e (by decide)
  have d6 : ∀ a, mulD (.int a) (.int 48271) = some (.fz (.int (a * 48271))) := fun a => mul_r (by decide)
  have d8 : ∀ a, mulD (.int a) (.int 69621) = some (.fz (.int (a * 69621))) := fun a => mul_r (by decide)
  by_cases hc : big = 0 ∧ i < ns.length
  · obtain ⟨rfl, hc⟩ := hc
    obtain ⟨j, rfl⟩ : ∃ j : Nat, i = (j : Int) := ⟨i.toNat, by omega⟩
    have hj : j < ns.length := by omega
    have hat : atI (ns.map PyData.int) (j : Int) = some (.int ns[j]) := by rw [atI_nat]; simp [hj]
    generalize hcell : (if ns[j] < 0 then -ns[j] else ns[j]) = cell
    have hcell0 : 0 ≤ cell := by rw [← hcell]; split <;> omega
    by_cases hbig : (1000000000000000000 : Int) ≤ cell
    · obtain ⟨r, e1, e2, o', h1, h2, h3, q⟩ := @draw2_ok ns (j + 1) cell seed many (some (.fz (.int cell))) (by omega) (by omega) hs hs2 hm hm2
      refine ⟨r, o', ?_, h1, h2, h3⟩
      simp only [feedV] at q
      simp [den__law_draw, bod__law_draw, Vi.bind_ok, Vi.bind_bad, Vi.bind_ex, Vi.so_ok, Vi.sb_nx, Vi.sb_ret, Vi.sb_bad, Vi.d_fz, Vi.d_olI, Vi.d_ol, Vi.o_some, Vi.tst_b, Vi.tst_i, Vi.tst_l, Vi.tst_s, Vi.tst_n, Vi.oB_some, Vi.oP_some, Vi.oL_some, Vi.rdV_fz, Vi.rdV_ol, Vi.rdV2_some, Vi.mvV_ol, Vi.mvV_fz, Vi.rdVar_c, Vi.ev_var, Vi.ev_mv, Vi.ev_int, Vi.ev_bl, Vi.ev_non, Vi.ev_str, Vi.ev_gi, Vi.ev_gs, Vi.ev_bin, Vi.ev_neg, Vi.ev_cmp, Vi.evT_cmp, Vi.ev_chain, Vi.ev_one, Vi.andK_b, Vi.orK_b, Vi.notK_b, Vi.ev_and, Vi.ev_or, Vi.ev_not, Vi.isB_b, Vi.ev_ite, Vi.ev_tup, Vi.ev_lst, Vi.ev_ix, Vi.ev_slc, Vi.evP_no, Vi.evP_yes, Vi.ev_call, Vi.calK_some, Vi.calR_ok, Vi.evA_nil, Vi.evA_e, Vi.evA_o, Vi.args_nil, Vi.args_e, Vi.args_o, Vi.argK_s, Vi.asm_nil, Vi.asm_e, Vi.asm_o, Vi.asmK_s, Vi.lent_ol, Vi.lent_sc, Vi.lent_fz, Vi.put_nil, Vi.put_e, Vi.put_o, Vi.ev_blt, Vi.ev_isi, Vi.ev_lsc, Vi.lscK_s, Vi.cmpK_ok, Vi.ev_lc, Vi.evC_no, Vi.evC_yes, Vi.evI_e, Vi.evI_r1, Vi.evI_r2, Vi.evs_nil, Vi.evs_cons, Vi.evO_nil, Vi.evO_cons, Vi.olO_s, Vi.olOf_c, Vi.appK_s, Vi.appK2_s, Vi.ev_app, Vi.ev_mt, Vi.evT_mt, Vi.appNK_s, Vi.ev_appN, Vi.inOf_c, Vi.inK_s, Vi.inK2_s, Vi.mvixK_s, Vi.ev_mvix, Vi.ev_rev, Vi.ev_repC, Vi.evT_rev, Vi.evI_en, Vi.evI_rv, Vi.evI_rg, Vi.rgK_s, Vi.asgTK_s, Vi.ex_asgT, Vi.bwsK_nx, Vi.bwsK_ret, Vi.ex_bws, Vi.ex_rais, Vi.tryK_nx, Vi.tryK_ret, Vi.ex_try, Vi.so_ex, Vi.sb_ex, Vi.d_ex, Vi.runK_ex, Vi.calR_ex, Vi.keepE, Vi.cloF, Vi.closedR, Vi.bwK_ok, Vi.ev_bw, Vi.bwK'_ok, Vi.evT_bw, Vi.evT_chain, Vi.evT_one, Vi.evT_and, Vi.evT_or, Vi.evT_not, Vi.evT_var, Vi.evT_call, Vi.evT_isi, Vi.evT_blt, Vi.evT_ix, Vi.evT_bin, Vi.evT_bl, Vi.ex_pass, Vi.ex_asg, Vi.ex_expr, Vi.ex_ret, Vi.ex_retN, Vi.ex_if, Vi.ex_for, Vi.setK_s, Vi.setK2_s, Vi.setK3_s, Vi.ex_set, Vi.ex_aug, Vi.ex_augS, Vi.augM, Vi.augSM, Vi.exs_nil, Vi.exs_cons, Vi.run_b, Vi.runK_ret, Vi.runK_nx, Vi.frzE_nil, Vi.frz_cons, Vi.frzK_ol, Vi.frzK2_s, Vi.frzK_fz, Vi.frzK_no, Vi.frzK_olI, Vi.rdV_olI, Vi.mvV_olI, Vi.olO_olI, Vi.lent_olI, Vi.closed_olI, Vi.dOf_fz, Vi.dOf_olI, Vi.dOf_olI', Vi.dsOf_fz, Vi.dsOf_ints, Vi.dsOf_nil, Vi.dsOf_cons, Option.map_some, Vi.binD, Vi.add_int, Vi.sub_int, Vi.cmpD, Vi.lt_int, Vi.le_int, Vi.gt_int, Vi.ge_int, Vi.neg_int, Vi.bf_len_l, Vi.bf_len_t, Vi.bf_len_s, Vi.bf_abs, Vi.bf_int, Vi.bf_intb, Vi.bf_max2, Vi.bf_min2, Vi.bf_list_l, Vi.bf_list_t, Vi.bf_tup_l, Vi.bf_sum, Vi.ix_l, Vi.ix_t, Vi.ix_s, Vi.isiD, Vi.chain2_eq, Vi.chainK_b, Vi.iop_add, Vi.iop_sub, Vi.it_l, Vi.it_t, Vi.it_s, Vi.lentOk, Vi.outs_nil, Vi.outs_fz, Vi.outs_c, List.tail_cons, Vi.killE, Vi.noOwn, Vi.closed, Vi.closeds, Vi.closedD, Vi.closeds_ints, Vi.wipeE, Vi.resE, Vi.bd_nm, Vi.bd_tp, Vi.bdN, Vi.bdT, Vi.bdsN, Vi.bdNil, Vi.bdCons, Vi.Tg.js, Vi.partM, Vi.eq_int, Vi.eq_str, Vi.eq_bool, Vi.eq_ints, feedV, at0, at1, at2, at3, hj, hat, hcell, hbig, ixN1, ixN2, powD, q]
    · obtain ⟨r, e1, e2, o', h1, h2, h3, q⟩ := @draw2_ok ns (j + 1) 0 ((seed * 48271 + cell * 69621 + (j + 1)) % 2147483647) many (some (.fz (.int cell))) (by omega) (by omega) (by omega) (by omega) hm hm2
      refine ⟨r, o', ?_, h1, h2, h3⟩
      simp only [feedV] at q
      simp [den__law_draw, bod__law_draw, Vi.bind_ok, Vi.bind_bad, Vi.bind_ex, Vi.so_ok, Vi.sb_nx, Vi.sb_ret, Vi.sb_bad, Vi.d_fz, Vi.d_olI, Vi.d_ol, Vi.o_some, Vi.tst_b, Vi.tst_i, Vi.tst_l, Vi.tst_s, Vi.tst_n, Vi.oB_some, Vi.oP_some, Vi.oL_some, Vi.rdV_fz, Vi.rdV_ol, Vi.rdV2_some, Vi.mvV_ol, Vi.mvV_fz, Vi.rdVar_c, Vi.ev_var, Vi.ev_mv, Vi.ev_int, Vi.ev_bl, Vi.ev_non, Vi.ev_str, Vi.ev_gi, Vi.ev_gs, Vi.ev_bin, Vi.ev_neg, Vi.ev_cmp, Vi.evT_cmp, Vi.ev_chain, Vi.ev_one, Vi.andK_b, Vi.orK_b, Vi.notK_b, Vi.ev_and, Vi.ev_or, Vi.ev_not, Vi.isB_b, Vi.ev_ite, Vi.ev_tup, Vi.ev_lst, Vi.ev_ix, Vi.ev_slc, Vi.evP_no, Vi.evP_yes, Vi.ev_call, Vi.calK_some, Vi.calR_ok, Vi.evA_nil, Vi.evA_e, Vi.evA_o, Vi.args_nil, Vi.args_e, Vi.args_o, Vi.argK_s, Vi.asm_nil, Vi.asm_e, Vi.asm_o, Vi.asmK_s, Vi.lent_ol, Vi.lent_sc, Vi.lent_fz, Vi.put_nil, Vi.put_e, Vi.put_o, Vi.ev_blt, Vi.ev_isi, Vi.ev_lsc, Vi.lscK_s, Vi.cmpK_ok, Vi.ev_lc, Vi.evC_no, Vi.evC_yes, Vi.evI_e, Vi.evI_r1, Vi.evI_r2, Vi.evs_nil, Vi.evs_cons, Vi.evO_nil, Vi.evO_cons, Vi.olO_s, Vi.olOf_c, Vi.appK_s, Vi.appK2_s, Vi.ev_app, Vi.ev_mt, Vi.evT_mt, Vi.appNK_s, Vi.ev_appN, Vi.inOf_c, Vi.inK_s, Vi.inK2_s, Vi.mvixK_s, Vi.ev_mvix, Vi.ev_rev, Vi.ev_repC, Vi.evT_rev, Vi.evI_en, Vi.evI_rv, Vi.evI_rg, Vi.rgK_s, Vi.asgTK_s, Vi.ex_asgT, Vi.bwsK_nx, Vi.bwsK_ret, Vi.ex_bws, Vi.ex_rais, Vi.tryK_nx, Vi.tryK_ret, Vi.ex_try, Vi.so_ex, Vi.sb_ex, Vi.d_ex, Vi.runK_ex, Vi.calR_ex, Vi.keepE, Vi.cloF, Vi.closedR, Vi.bwK_ok, Vi.ev_bw, Vi.bwK'_ok, Vi.evT_bw, Vi.evT_chain, Vi.evT_one, Vi.evT_and, Vi.evT_or, Vi.evT_not, Vi.evT_var, Vi.evT_call, Vi.evT_isi, Vi.evT_blt, Vi.evT_ix, Vi.evT_bin, Vi.evT_bl, Vi.ex_pass, Vi.ex_asg, Vi.ex_expr, Vi.ex_ret, Vi.ex_retN, Vi.ex_if, Vi.ex_for, Vi.setK_s, Vi.setK2_s, Vi.setK3_s, Vi.ex_set, Vi.ex_aug, Vi.ex_augS, Vi.augM, Vi.augSM, Vi.exs_nil, Vi.exs_cons, Vi.run_b, Vi.runK_ret, Vi.runK_nx, Vi.frzE_nil, Vi.frz_cons, Vi.frzK_ol, Vi.frzK2_s, Vi.frzK_fz, Vi.frzK_no, Vi.frzK_olI, Vi.rdV_olI, Vi.mvV_olI, Vi.olO_olI, Vi.lent_olI, Vi.closed_olI, Vi.dOf_fz, Vi.dOf_olI, Vi.dOf_olI', Vi.dsOf_fz, Vi.dsOf_ints, Vi.dsOf_nil, Vi.dsOf_cons, Option.map_some, Vi.binD, Vi.add_int, Vi.sub_int, Vi.cmpD, Vi.lt_int, Vi.le_int, Vi.gt_int, Vi.ge_int, Vi.neg_int, Vi.bf_len_l, Vi.bf_len_t, Vi.bf_len_s, Vi.bf_abs, Vi.bf_int, Vi.bf_intb, Vi.bf_max2, Vi.bf_min2, Vi.bf_list_l, Vi.bf_list_t, Vi.bf_tup_l, Vi.bf_sum, Vi.ix_l, Vi.ix_t, Vi.ix_s, Vi.isiD, Vi.chain2_eq, Vi.chainK_b, Vi.iop_add, Vi.iop_sub, Vi.it_l, Vi.it_t, Vi.it_s, Vi.lentOk, Vi.outs_nil, Vi.outs_fz, Vi.outs_c, List.tail_cons, Vi.killE, Vi.noOwn, Vi.closed, Vi.closeds, Vi.closedD, Vi.closeds_ints, Vi.wipeE, Vi.resE, Vi.bd_nm, Vi.bd_tp, Vi.bdN, Vi.bdT, Vi.bdsN, Vi.bdNil, Vi.bdCons, Vi.Tg.js, Vi.partM, Vi.eq_int, Vi.eq_str, Vi.eq_bool, Vi.eq_ints, feedV, at0, at1, at2, at3, hj, hat, hcell, hbig, ixN1, ixN2, ixN3, powD, d3, d6, d8, q]
  · obtain ⟨r, e1, e2, o', h1, h2, h3, q⟩ := @draw2_ok ns i big seed many none hi hb hs hs2 hm hm2
    refine ⟨r, o', ?_, h1, h2, h3⟩
    simp only [feedV] at q
    by_cases hb0 : big = 0
    · have hl : ¬ i < (ns.length : Int) := fun z => hc ⟨hb0, z⟩
      subst hb0
      simp [den__law_draw, bod__law_draw, Vi.bind_ok, Vi.bind_bad, Vi.bind_ex, Vi.so_ok, Vi.sb_nx, Vi.sb_ret, Vi.sb_bad, Vi.d_fz, Vi.d_olI, Vi.d_ol, Vi.o_some, Vi.tst_b, Vi.tst_i, Vi.tst_l, Vi.tst_s, Vi.tst_n, Vi.oB_some, Vi.oP_some, Vi.oL_some, Vi.rdV_fz, Vi.rdV_ol, Vi.rdV2_some, Vi.mvV_ol, Vi.mvV_fz, Vi.rdVar_c, Vi.ev_var, Vi.ev_mv, Vi.ev_int, Vi.ev_bl, Vi.ev_non, Vi.ev_str, Vi.ev_gi, Vi.ev_gs, Vi.ev_bin, Vi.ev_neg, Vi.ev_cmp, Vi.evT_cmp, Vi.ev_chain, Vi.ev_one, Vi.andK_b, Vi.orK_b, Vi.notK_b, Vi.ev_and, Vi.ev_or, Vi.ev_not, Vi.isB_b, Vi.ev_ite, Vi.ev_tup, Vi.ev_lst, Vi.ev_ix, Vi.ev_slc, Vi.evP_no, Vi.evP_yes, Vi.ev_call, Vi.calK_some, Vi.calR_ok, Vi.evA_nil, Vi.evA_e, Vi.evA_o, Vi.args_nil, Vi.args_e, Vi.args_o, Vi.argK_s, Vi.asm_nil, Vi.asm_e, Vi.asm_o, Vi.asmK_s, Vi.lent_ol, Vi.lent_sc, Vi.lent_fz, Vi.put_nil, Vi.put_e, Vi.put_o, Vi.ev_blt, Vi.ev_isi, Vi.ev_lsc, Vi.lscK_s, Vi.cmpK_ok, Vi.ev_lc, Vi.evC_no, Vi.evC_yes, Vi.evI_e, Vi.evI_r1, Vi.evI_r2, Vi.evs_nil, Vi.evs_cons, Vi.evO_nil, Vi.evO_cons, Vi.olO_s, Vi.olOf_c, Vi.appK_s, Vi.appK2_s, Vi.ev_app, Vi.ev_mt, Vi.evT_mt, Vi.appNK_s, Vi.ev_appN, Vi.inOf_c, Vi.inK_s, Vi.inK2_s, Vi.mvixK_s, Vi.ev_mvix, Vi.ev_rev, Vi.ev_repC, Vi.evT_rev, Vi.evI_en, Vi.evI_rv, Vi.evI_rg, Vi.rgK_s, Vi.asgTK_s, Vi.ex_asgT, Vi.bwsK_nx, Vi.bwsK_ret, Vi.ex_bws, Vi.ex_rais, Vi.tryK_nx, Vi.tryK_ret, Vi.ex_try, Vi.so_ex, Vi.sb_ex, Vi.d_ex, Vi.runK_ex, Vi.calR_ex, Vi.keepE, Vi.cloF, Vi.closedR, Vi.bwK_ok, Vi.ev_bw, Vi.bwK'_ok, Vi.evT_bw, Vi.evT_chain, Vi.evT_one, Vi.evT_and, Vi.evT_or, Vi.evT_not, Vi.evT_var, Vi.evT_call, Vi.evT_isi, Vi.evT_blt, Vi.evT_ix, Vi.evT_bin, Vi.evT_bl, Vi.ex_pass, Vi.ex_asg, Vi.ex_expr, Vi.ex_ret, Vi.ex_retN, Vi.ex_if, Vi.ex_for, Vi.setK_s, Vi.setK2_s, Vi.setK3_s, Vi.ex_set, Vi.ex_aug, Vi.ex_augS, Vi.augM, Vi.augSM, Vi.exs_nil, Vi.exs_cons, Vi.run_b, Vi.runK_ret, Vi.runK_nx, Vi.frzE_nil, Vi.frz_cons, Vi.frzK_ol, Vi.frzK2_s, Vi.frzK_fz, Vi.frzK_no, Vi.frzK_olI, Vi.rdV_olI, Vi.mvV_olI, Vi.olO_olI, Vi.lent_olI, Vi.closed_olI, Vi.dOf_fz, Vi.dOf_olI, Vi.dOf_olI', Vi.dsOf_fz, Vi.dsOf_ints, Vi.dsOf_nil, Vi.dsOf_cons, Option.map_some, Vi.binD, Vi.add_int, Vi.sub_int, Vi.cmpD, Vi.lt_int, Vi.le_int, Vi.gt_int, Vi.ge_int, Vi.neg_int, Vi.bf_len_l, Vi.bf_len_t, Vi.bf_len_s, Vi.bf_abs, Vi.bf_int, Vi.bf_intb, Vi.bf_max2, Vi.bf_min2, Vi.bf_list_l, Vi.bf_list_t, Vi.bf_tup_l, Vi.bf_sum, Vi.ix_l, Vi.ix_t, Vi.ix_s, Vi.isiD, Vi.chain2_eq, Vi.chainK_b, Vi.iop_add, Vi.iop_sub, Vi.it_l, Vi.it_t, Vi.it_s, Vi.lentOk, Vi.outs_nil, Vi.outs_fz, Vi.outs_c, List.tail_cons, Vi.killE, Vi.noOwn, Vi.closed, Vi.closeds, Vi.closedD, Vi.closeds_ints, Vi.wipeE, Vi.resE, Vi.bd_nm, Vi.bd_tp, Vi.bdN, Vi.bdT, Vi.bdsN, Vi.bdNil, Vi.bdCons, Vi.Tg.js, Vi.partM, Vi.eq_int, Vi.eq_str, Vi.eq_bool, Vi.eq_ints, feedV, at0, at1, at2, at3, hl, q]
    · simp [den__law_draw, bod__law_draw, Vi.bind_ok, Vi.bind_bad, Vi.bind_ex, Vi.so_ok, Vi.sb_nx, Vi.sb_ret, Vi.sb_bad, Vi.d_fz, Vi.d_olI, Vi.d_ol, Vi.o_some, Vi.tst_b, Vi.tst_i, Vi.tst_l, Vi.tst_s, Vi.tst_n, Vi.oB_some, Vi.oP_some, Vi.oL_some, Vi.rdV_fz, Vi.rdV_ol, Vi.rdV2_some, Vi.mvV_ol, Vi.mvV_fz, Vi.rdVar_c, Vi.ev_var, Vi.ev_mv, Vi.ev_int, Vi.ev_bl, Vi.ev_non, Vi.ev_str, Vi.ev_gi, Vi.ev_gs, Vi.ev_bin, Vi.ev_neg, Vi.ev_cmp, Vi.evT_cmp, Vi.ev_chain, Vi.ev_one, Vi.andK_b, Vi.orK_b, Vi.notK_b, Vi.ev_and, Vi.ev_or, Vi.ev_not, Vi.isB_b, Vi.ev_ite, Vi.ev_tup, Vi.ev_lst, Vi.ev_ix, Vi.ev_slc, Vi.evP_no, Vi.evP_yes, Vi.ev_call, Vi.calK_some, Vi.calR_ok, Vi.evA_nil, Vi.evA_e, Vi.evA_o, Vi.args_nil, Vi.args_e, Vi.args_o, Vi.argK_s, Vi.asm_nil, Vi.asm_e, Vi.asm_o, Vi.asmK_s, Vi.lent_ol, Vi.lent_sc, Vi.lent_fz, Vi.put_nil, Vi.put_e, Vi.put_o, Vi.ev_blt, Vi.ev_isi, Vi.ev_lsc, Vi.lscK_s, Vi.cmpK_ok, Vi.ev_lc, Vi.evC_no, Vi.evC_yes, Vi.evI_e, Vi.evI_r1, Vi.evI_r2, Vi.evs_nil, Vi.evs_cons, Vi.evO_nil, Vi.evO_cons, Vi.olO_s, Vi.olOf_c, Vi.appK_s, Vi.appK2_s, Vi.ev_app, Vi.ev_mt, Vi.evT_mt, Vi.appNK_s, Vi.ev_appN, Vi.inOf_c, Vi.inK_s, Vi.inK2_s, Vi.mvixK_s, Vi.ev_mvix, Vi.ev_rev, Vi.ev_repC, Vi.evT_rev, Vi.evI_en, Vi.evI_rv, Vi.evI_rg, Vi.rgK_s, Vi.asgTK_s, Vi.ex_asgT, Vi.bwsK_nx, Vi.bwsK_ret, Vi.ex_bws, Vi.ex_rais, Vi.tryK_nx, Vi.tryK_ret, Vi.ex_try, Vi.so_ex, Vi.sb_ex, Vi.d_ex, Vi.runK_ex, Vi.calR_ex, Vi.keepE, Vi.cloF, Vi.closedR, Vi.bwK_ok, Vi.ev_bw, Vi.bwK'_ok, Vi.evT_bw, Vi.evT_chain, Vi.evT_one, Vi.evT_and, Vi.evT_or, Vi.evT_not, Vi.evT_var, Vi.evT_call, Vi.evT_isi, Vi.evT_blt, Vi.evT_ix, Vi.evT_bin, Vi.evT_bl, Vi.ex_pass, Vi.ex_asg, Vi.ex_expr, Vi.ex_ret, Vi.ex_retN, Vi.ex_if, Vi.ex_for, Vi.setK_s, Vi.setK2_s, Vi.setK3_s, Vi.ex_set, Vi.ex_aug, Vi.ex_augS, Vi.augM, Vi.augSM, Vi.exs_nil, Vi.exs_cons, Vi.run_b, Vi.runK_ret, Vi.runK_nx, Vi.frzE_nil, Vi.frz_cons, Vi.frzK_ol, Vi.frzK2_s, Vi.frzK_fz, Vi.frzK_no, Vi.frzK_olI, Vi.rdV_olI, Vi.mvV_olI, Vi.olO_olI, Vi.lent_olI, Vi.closed_olI, Vi.dOf_fz, Vi.dOf_olI, Vi.dOf_olI', Vi.dsOf_fz, Vi.dsOf_ints, Vi.dsOf_nil, Vi.dsOf_cons, Option.map_some, Vi.binD, Vi.add_int, Vi.sub_int, Vi.cmpD, Vi.lt_int, Vi.le_int, Vi.gt_int, Vi.ge_int, Vi.neg_int, Vi.bf_len_l, Vi.bf_len_t, Vi.bf_len_s, Vi.bf_abs, Vi.bf_int, Vi.bf_intb, Vi.bf_max2, Vi.bf_min2, Vi.bf_list_l, Vi.bf_list_t, Vi.bf_tup_l, Vi.bf_sum, Vi.ix_l, Vi.ix_t, Vi.ix_s, Vi.isiD, Vi.chain2_eq, Vi.chainK_b, Vi.iop_add, Vi.iop_sub, Vi.it_l, Vi.it_t, Vi.it_s, Vi.lentOk, Vi.outs_nil, Vi.outs_fz, Vi.outs_c, List.tail_cons, Vi.killE, Vi.noOwn, Vi.closed, Vi.closeds, Vi.closedD, Vi.closeds_ints, Vi.wipeE, Vi.resE, Vi.bd_nm, Vi.bd_tp, Vi.bdN, Vi.bdT, Vi.bdsN, Vi.bdNil, Vi.bdCons, Vi.Tg.js, Vi.partM, Vi.eq_int, Vi.eq_str, Vi.eq_bool, Vi.eq_ints, feedV, at0, at1, at2, at3, hb0, q]
end Vi

set_option Elab.async false
set_option linter.all false
set_option maxRecDepth 100000
namespace Vi
open PySem L2
/-! ### texts as lists of signs -/
abbrev tS (l : List Nat) : Str := ⟨l.toArray⟩
abbrev tx (l : List Nat) : PyData := .str ⟨l.toArray⟩
def az (n : Nat) : List Nat := (List.range n).map (97 + ·)
theorem tS_len {l : List Nat} : (tS l).length = l.length := by
  show (l.toArray).size = _
  simp
theorem len_tx {l : List Nat} : bfD .len [tx l] = some (.fz (.int (l.length : Int))) := by rw [bf_len_s, tS_len]
theorem lit_az : ("abcdefgh" : Str) = tS (az 8) := by decide
theorem lit_az9 : ("abcdefghi" : Str) = tS (az 9) := by decide
theorem lit_a : ("a" : Str) = tS [97] := by decide
theorem lit_b : ("b" : Str) = tS [98] := by decide
theorem lit_0 : ("" : Str) = tS [] := by decide
theorem it_tx {l : List Nat} : itD (tx l) = some (l.map fun c => tx [c]) := by
  rw [it_s]; unfold signs; simp [tx]
theorem signs_tx {l : List Nat} : signs (tS l) = l.map fun c => tx [c] := by unfold signs; simp [tx]
theorem in_tx {l : List Nat} {c : Nat} : inD (tx [c]) (tx l) = some (decide (c ∈ l)) := by simp [inD]
theorem app_tx {a b : List Nat} (h : a.length + b.length ≤ sizeLine) : Vi.addD (tx a) (tx b) = some (OV.fz (tx (a ++ b))) := by
  have e : (tS a ++ tS b : Str) = tS (a ++ b) := TL.ext_tl (by rw [TL.tl_append])
  show (if (tS a).length + (tS b).length ≤ sizeLine then some (OV.fz (.str (tS a ++ tS b))) else none) = _
  rw [tS_len, tS_len, if_pos h, e]
theorem beq_tx {a b : List Nat} : (tS a == tS b) = decide (a = b) := by
  by_cases h : a = b
  · subst h; simp
  · have : ¬ tS a = tS b := fun z => h (by
      have := congrArg (fun s : Str => s.cps.toList) z
      simpa [tS] using this)
    simp [this, h]
theorem eq_tx {a b : List Nat} : eqD (tx a) (tx b) = some (decide (a = b)) := by rw [eq_str, beq_tx]
theorem strs_tx : ∀ ws : List (List Nat), strsOf (ws.map tx) = some (ws.map tS)
  | [] => rfl
  | w :: ws => by simp [strsOf, strs_tx ws]
theorem cat_tx (ws : List (List Nat)) : catS (ws.map tS) = tS ws.flatten := by
  unfold catS
  simp [Function.comp_def, tS]
theorem join_tx {ws : List (List Nat)} (h : ws.flatten.length ≤ 16777216) : mfD .join (tS []) (.list (ws.map tx)) = some (tx ws.flatten) := by
  have e : ((ws.map tS).map (·.length)).sum = ws.flatten.length := by
    rw [List.length_flatten, List.map_map]
    exact congrArg List.sum (List.map_congr_left fun w _ => tS_len)
  show (strsOf (ws.map tx)).bind _ = _
  rw [strs_tx]
  show (if (tS []).length = 0 ∧ ((ws.map tS).map (·.length)).sum ≤ 16777216 then some (PyData.str (catS (ws.map tS))) else none) = _
  rw [e, if_pos ⟨tS_len, h⟩, cat_tx]
theorem count_tx {l : List Nat} {c : Nat} : mfD .count (tS l) (tx [c]) = some (.int ((l.filter (· == c)).length : Int)) := by simp [mfD]
theorem index_tx {l : List Nat} {c : Nat} (h : c ∈ l) : mfD .index (tS l) (tx [c]) = some (.int (l.idxOf c : Int)) := by simp [mfD, h]
theorem az_len {n : Nat} : (az n).length = n := by simp [az]
theorem mem_az {n c : Nat} : c ∈ az n ↔ 97 ≤ c ∧ c < 97 + n := by
  unfold az
  rw [List.mem_map]
  constructor
  · rintro ⟨i, hi, rfl⟩
    rw [List.mem_range] at hi
    omega
  · intro ⟨h1, h2⟩
    exact ⟨c - 97, List.mem_range.mpr (by omega), by omega⟩
theorem cut_az {n : Nat} (h : n ≤ 8) : slcD (tx (az 8)) none (some (n : Int)) = some (.fz (tx (az n))) := by
  have : n = 0 ∨ n = 1 ∨ n = 2 ∨ n = 3 ∨ n = 4 ∨ n = 5 ∨ n = 6 ∨ n = 7 ∨ n = 8 := by omega
  rcases this with rfl | rfl | rfl | rfl | rfl | rfl | rfl | rfl | rfl <;> rfl
theorem ix_az {n j : Nat} (h : j < n) : ixD (tx (az n)) (.int (j : Int)) = some (tx [97 + j]) := by
  rw [ix_s, atI_nat]
  simp [az, h]
/-- a loop that may end early -/
theorem forL_stop {α : Type} {bd : PyData → Env → Option Env} {mb : MS} {g : α → PyData} (I : List α → Env → Prop) (stop : α → Bool) (P : α → So → Prop) (hP : ∀ x R, P x R → ∀ e, R ≠ .nx e) : ∀ (l done : List α) (env : Env),
    I done env → (∀ d x r env, d ++ x :: r = done ++ l → I d env → ∃ e1, bd (g x) env = some e1 ∧ ((stop x = true ∧ P x (mb e1)) ∨ (stop x = false ∧ ∃ e2, mb e1 = .nx e2 ∧ I (d ++ [x]) e2))) →
    (l.find? stop = none ∧ ∃ env', forL bd mb (l.map g) env = .nx env' ∧ I (done ++ l) env') ∨ ∃ x, l.find? stop = some x ∧ P x (forL bd mb (l.map g) env)
  | [], done, env, h, _ => Or.inl ⟨rfl, env, by simp [forL], by simpa using h⟩
  | x :: l, done, env, h, st => by
    obtain ⟨e1, h1, h2 | ⟨h2, e2, h3, h4⟩⟩ := st done x l env rfl h
    · refine Or.inr ⟨x, by rw [List.find?_cons_of_pos h2.1], ?_⟩
      rw [List.map_cons]
      unfold forL
      rw [h1]; simp only []
      have q := hP x _ h2.2
      have p := h2.2
      cases hm : mb e1 with
      | nx e => exact absurd hm (q e)
      | ret r e => rw [hm] at p; exact p
      | ex z e => rw [hm] at p; exact p
      | bad => rw [hm] at p; exact p
    · have e0 : (x :: l).find? stop = l.find? stop := List.find?_cons_of_neg (by rw [h2]; exact Bool.false_ne_true)
      have e9 : forL bd mb ((x :: l).map g) env = forL bd mb (l.map g) e2 := by
        rw [List.map_cons]
        conv => lhs; unfold forL
        rw [h1]; simp only []
        rw [h3]
        rfl
      rw [e0, e9]
      have := forL_stop I stop P hP l (done ++ [x]) e2 h4 fun d y r env e => st d y r env (by rw [e]; simp)
      simpa using this
/-- the string at a place -/
def nth (ws : List (List Nat)) (i : Nat) : List Nat := ws.getD i []
theorem enL_tx (ws : List (List Nat)) : enL (ws.map tx) = (List.range ws.length).map fun i => .tuple [.int (i : Nat), tx (nth ws i)] := by
  unfold enL nth
  apply List.ext_getElem
  · simp
  · intro i h1 h2
    have h3 : i < ws.length := by simpa using h1
    simp [h3]
end Vi

set_option Elab.async false
set_option linter.all false
set_option maxRecDepth 100000
set_option maxHeartbeats 4000000
namespace Vi
open PySem L2
/-! ### the laws' own _law_same: the same text in every law -/
def tab__law_same : Tab := ⟨["actual", "due", "k"], [("_law_same", 2)], ["isinstance", "bool", "int", "str", "tuple", "list", "all", "range", "len"], [], [], [], []⟩
def b__law_same_0 : Sts := (.cons (.ret (.and (.isi (.var 0) .int) (.and (.not (.isi (.var 0) .bool)) (.one (.cmp .Eq (.var 0) (.var 1)))))) .nil)
def b__law_same_1 : Sts := (.cons (.iff (.isi (.var 1) .str) (.cons (.ret (.and (.isi (.var 0) .str) (.one (.cmp .Eq (.var 0) (.var 1))))) .nil) .nil) b__law_same_0)
def b__law_same_2 : Sts := (.cons (.iff (.or (.cmp .Is (.var 1) .non) (.one (.isi (.var 1) .bool))) (.cons (.ret (.ite (.cmp .Is (.var 1) .non) (.cmp .Is (.var 0) .non) (.and (.isi (.var 0) .bool) (.one (.cmp .Eq (.var 0) (.var 1)))))) .nil) .nil) b__law_same_1)
def b__law_same_3 : Sts := (.cons (.iff (.or (.isi (.var 1) .list) (.one (.isi (.var 1) .tuple))) (.cons (.iff (.or (.cmp .NotEq (.isi (.var 0) .list) (.isi (.var 1) .list)) (.one (.cmp .NotEq (.isi (.var 0) .tuple) (.isi (.var 1) .tuple)))) (.cons (.ret (.bl false)) .nil) .nil) (.cons (.ret (.and (.cmp .Eq (.blt .len (.cons (.var 0) .nil)) (.blt .len (.cons (.var 1) .nil))) (.one (.blt .all (.cons (.lc (.call 0 (.e (.ix (.var 0) (.var 2)) (.e (.ix (.var 1) (.var 2)) .nil))) (.nm 2) (.r1 (.blt .len (.cons (.var 1) .nil))) .no [2]) .nil))))) .nil)) .nil) b__law_same_2)
def bod__law_same : Sts := b__law_same_3
def rho__law_same (d : Den) : Rho := fun f => match f with
  | 0 => d
  | _ => fun _ => .bad
def denS__law_same (d : Den) : Den := runB 2 3 [] (exs (rho__law_same d) [] bod__law_same)
def den__law_same : Den := fixD denS__law_same 8
/-- plain data less deep than n -/
def okS : Nat → PyData → Prop
  | 0, _ => False
  | n + 1, .list ds => ds.length ≤ 16777216 ∧ ∀ d, d ∈ ds → okS n d
  | n + 1, .tuple ds => ds.length ≤ 16777216 ∧ ∀ d, d ∈ ds → okS n d
  | _ + 1, .dict _ => False
  | _ + 1, _ => True
theorem bols_all : ∀ {α : Type} (l : List α), bolsOf (l.map fun _ => PyData.bool true) = some (l.map fun _ => true)
  | _, [] => rfl
  | _, i :: l => by simp [bolsOf, bols_all l]
theorem all_true {α : Type} {l : List α} : bfD .all [.list (l.map fun _ => PyData.bool true)] = some (.fz (.bool true)) := by
  show (bolsOf (l.map fun _ => PyData.bool true)).map _ = _
  rw [bols_all]; simp
theorem dsOf_mapV {α : Type} {g : α → PyData} {l : List α} : dsOf (l.map fun x => OV.fz (g x)) = some (l.map g) := by
  have := dsOf_fz (l.map g)
  simpa [Function.comp_def] using this
theorem rng_natV {n : Nat} (h : n ≤ 16777216) : rngD [.int (n : Int)] = some ((List.range n).map fun i => .int (i : Nat)) := by
  rw [rng_1 (by omega) (by omega)]
  unfold rngL
  simp
theorem same_ok : ∀ (n : Nat) (d : PyData), okS n d → fixD denS__law_same n [.fz d, .fz d] = .ok (.fz (.bool true)) [none, none]
  | 0, _, h => h.elim
  | n + 1, .none, h => by
    show denS__law_same _ _ = _
    generalize fixD denS__law_same n = D
    simp -implicitDefEqProofs [denS__law_same, bod__law_same, b__law_same_0, b__law_same_1, b__law_same_2, b__law_same_3, Vi.bind_ok, Vi.bind_bad, Vi.bind_ex, Vi.so_ok, Vi.sb_nx, Vi.sb_ret, Vi.sb_bad, Vi.d_fz, Vi.d_olI, Vi.d_ol, Vi.o_some, Vi.tst_b, Vi.tst_i, Vi.tst_l, Vi.tst_s, Vi.tst_n, Vi.oB_some, Vi.oP_some, Vi.oL_some, Vi.rdV_fz, Vi.rdV_ol, Vi.rdV2_some, Vi.mvV_ol, Vi.mvV_fz, Vi.rdVar_c, Vi.ev_var, Vi.ev_mv, Vi.ev_int, Vi.ev_bl, Vi.ev_non, Vi.ev_str, Vi.ev_gi, Vi.ev_gs, Vi.ev_bin, Vi.ev_neg, Vi.ev_cmp, Vi.evT_cmp, Vi.ev_chain, Vi.ev_one, Vi.andK_b, Vi.orK_b, Vi.notK_b, Vi.ev_and, Vi.ev_or, Vi.ev_not, Vi.isB_b, Vi.ev_ite, Vi.ev_tup, Vi.ev_lst, Vi.ev_ix, Vi.ev_slc, Vi.evP_no, Vi.evP_yes, Vi.ev_call, Vi.calK_some, Vi.calR_ok, Vi.evA_nil, Vi.evA_e, Vi.evA_o, Vi.args_nil, Vi.args_e, Vi.args_o, Vi.argK_s, Vi.asm_nil, Vi.asm_e, Vi.asm_o, Vi.asmK_s, Vi.lent_ol, Vi.lent_sc, Vi.lent_fz, Vi.put_nil, Vi.put_e, Vi.put_o, Vi.ev_blt, Vi.ev_isi, Vi.ev_lsc, Vi.lscK_s, Vi.cmpK_ok, Vi.ev_lc, Vi.evC_no, Vi.evC_yes, Vi.evI_e, Vi.evI_r1, Vi.evI_r2, Vi.evs_nil, Vi.evs_cons, Vi.evO_nil, Vi.evO_cons, Vi.olO_s, Vi.olOf_c, Vi.appK_s, Vi.appK2_s, Vi.ev_app, Vi.ev_mt, Vi.evT_mt, Vi.appNK_s, Vi.ev_appN, Vi.inOf_c, Vi.inK_s, Vi.inK2_s, Vi.mvixK_s, Vi.ev_mvix, Vi.ev_rev, Vi.ev_repC, Vi.evT_rev, Vi.evI_en, Vi.evI_rv, Vi.evI_rg, Vi.rgK_s, Vi.asgTK_s, Vi.ex_asgT, Vi.bwsK_nx, Vi.bwsK_ret, Vi.ex_bws, Vi.ex_rais, Vi.tryK_nx, Vi.tryK_ret, Vi.ex_try, Vi.so_ex, Vi.sb_ex, Vi.d_ex, Vi.runK_ex, Vi.calR_ex, Vi.keepE, Vi.cloF, Vi.closedR, Vi.bwK_ok, Vi.ev_bw, Vi.bwK'_ok, Vi.evT_bw, Vi.evT_chain, Vi.evT_one, Vi.evT_and, Vi.evT_or, Vi.evT_not, Vi.evT_var, Vi.evT_call, Vi.evT_isi, Vi.evT_blt, Vi.evT_ix, Vi.evT_bin, Vi.evT_bl, Vi.ex_pass, Vi.ex_asg, Vi.ex_expr, Vi.ex_ret, Vi.ex_retN, Vi.ex_if, Vi.ex_for, Vi.setK_s, Vi.setK2_s, Vi.setK3_s, Vi.ex_set, Vi.ex_aug, Vi.ex_augS, Vi.augM, Vi.augSM, Vi.exs_nil, Vi.exs_cons, Vi.run_b, Vi.runK_ret, Vi.runK_nx, Vi.frzE_nil, Vi.frz_cons, Vi.frzK_ol, Vi.frzK2_s, Vi.frzK_fz, Vi.frzK_no, Vi.frzK_olI, Vi.rdV_olI, Vi.mvV_olI, Vi.olO_olI, Vi.lent_olI, Vi.closed_olI, Vi.dOf_fz, Vi.dOf_olI, Vi.dOf_olI', Vi.dsOf_fz, Vi.dsOf_ints, Vi.dsOf_nil, Vi.dsOf_cons, Option.map_some, Vi.binD, Vi.add_int, Vi.sub_int, Vi.cmpD, Vi.lt_int, Vi.le_int, Vi.gt_int, Vi.ge_int, Vi.neg_int, Vi.bf_len_l, Vi.bf_len_t, Vi.bf_len_s, Vi.bf_abs, Vi.bf_int, Vi.bf_intb, Vi.bf_max2, Vi.bf_min2, Vi.bf_list_l, Vi.bf_list_t, Vi.bf_tup_l, Vi.bf_sum, Vi.ix_l, Vi.ix_t, Vi.ix_s, Vi.isiD, Vi.chain2_eq, Vi.chainK_b, Vi.iop_add, Vi.iop_sub, Vi.it_l, Vi.it_t, Vi.it_s, Vi.lentOk, Vi.outs_nil, Vi.outs_fz, Vi.outs_c, List.tail_cons, Vi.killE, Vi.noOwn, Vi.closed, Vi.closeds, Vi.closedD, Vi.closeds_ints, Vi.wipeE, Vi.resE, Vi.bd_nm, Vi.bd_tp, Vi.bdN, Vi.bdT, Vi.bdsN, Vi.bdNil, Vi.bdCons, Vi.Tg.js, Vi.partM, Vi.eq_int, Vi.eq_str, Vi.eq_bool, Vi.eq_ints, isD, rho__law_same]
  | n + 1, .bool b, h => by
    show denS__law_same _ _ = _
    generalize fixD denS__law_same n = D
    simp -implicitDefEqProofs [denS__law_same, bod__law_same, b__law_same_0, b__law_same_1, b__law_same_2, b__law_same_3, Vi.bind_ok, Vi.bind_bad, Vi.bind_ex, Vi.so_ok, Vi.sb_nx, Vi.sb_ret, Vi.sb_bad, Vi.d_fz, Vi.d_olI, Vi.d_ol, Vi.o_some, Vi.tst_b, Vi.tst_i, Vi.tst_l, Vi.tst_s, Vi.tst_n, Vi.oB_some, Vi.oP_some, Vi.oL_some, Vi.rdV_fz, Vi.rdV_ol, Vi.rdV2_some, Vi.mvV_ol, Vi.mvV_fz, Vi.rdVar_c, Vi.ev_var, Vi.ev_mv, Vi.ev_int, Vi.ev_bl, Vi.ev_non, Vi.ev_str, Vi.ev_gi, Vi.ev_gs, Vi.ev_bin, Vi.ev_neg, Vi.ev_cmp, Vi.evT_cmp, Vi.ev_chain, Vi.ev_one, Vi.andK_b, Vi.orK_b, Vi.notK_b, Vi.ev_and, Vi.ev_or, Vi.ev_not, Vi.isB_b, Vi.ev_ite, Vi.ev_tup, Vi.ev_lst, Vi.ev_ix, Vi.ev_slc, Vi.evP_no, Vi.evP_yes, Vi.ev_call, Vi.calK_some, Vi.calR_ok, Vi.evA_nil, Vi.evA_e, Vi.evA_o, Vi.args_nil, Vi.args_e, Vi.args_o, Vi.argK_s, Vi.asm_nil, Vi.asm_e, Vi.asm_o, Vi.asmK_s, Vi.lent_ol, Vi.lent_sc, Vi.lent_fz, Vi.put_nil, Vi.put_e, Vi.put_o, Vi.ev_blt, Vi.ev_isi, Vi.ev_lsc, Vi.lscK_s, Vi.cmpK_ok, Vi.ev_lc, Vi.evC_no, Vi.evC_yes, Vi.evI_e, Vi.evI_r1, Vi.evI_r2, Vi.evs_nil, Vi.evs_cons, Vi.evO_nil, Vi.evO_cons, Vi.olO_s, Vi.olOf_c, Vi.appK_s, Vi.appK2_s, Vi.ev_app, Vi.ev_mt, Vi.evT_mt, Vi.appNK_s, Vi.ev_appN, Vi.inOf_c, Vi.inK_s, Vi.inK2_s, Vi.mvixK_s, Vi.ev_mvix, Vi.ev_rev, Vi.ev_repC, Vi.evT_rev, Vi.evI_en, Vi.evI_rv, Vi.evI_rg, Vi.rgK_s, Vi.asgTK_s, Vi.ex_asgT, Vi.bwsK_nx, Vi.bwsK_ret, Vi.ex_bws, Vi.ex_rais, Vi.tryK_nx, Vi.tryK_ret, Vi.ex_try, Vi.so_ex, Vi.sb_ex, Vi.d_ex, Vi.runK_ex, Vi.calR_ex, Vi.keepE, Vi.cloF, Vi.closedR, Vi.bwK_ok, Vi.ev_bw, Vi.bwK'_ok, Vi.evT_bw, Vi.evT_chain, Vi.evT_one, Vi.evT_and, Vi.evT_or, Vi.evT_not, Vi.evT_var, Vi.evT_call, Vi.evT_isi, Vi.evT_blt, Vi.evT_ix, Vi.evT_bin, Vi.evT_bl, Vi.ex_pass, Vi.ex_asg, Vi.ex_expr, Vi.ex_ret, Vi.ex_retN, Vi.ex_if, Vi.ex_for, Vi.setK_s, Vi.setK2_s, Vi.setK3_s, Vi.ex_set, Vi.ex_aug, Vi.ex_augS, Vi.augM, Vi.augSM, Vi.exs_nil, Vi.exs_cons, Vi.run_b, Vi.runK_ret, Vi.runK_nx, Vi.frzE_nil, Vi.frz_cons, Vi.frzK_ol, Vi.frzK2_s, Vi.frzK_fz, Vi.frzK_no, Vi.frzK_olI, Vi.rdV_olI, Vi.mvV_olI, Vi.olO_olI, Vi.lent_olI, Vi.closed_olI, Vi.dOf_fz, Vi.dOf_olI, Vi.dOf_olI', Vi.dsOf_fz, Vi.dsOf_ints, Vi.dsOf_nil, Vi.dsOf_cons, Option.map_some, Vi.binD, Vi.add_int, Vi.sub_int, Vi.cmpD, Vi.lt_int, Vi.le_int, Vi.gt_int, Vi.ge_int, Vi.neg_int, Vi.bf_len_l, Vi.bf_len_t, Vi.bf_len_s, Vi.bf_abs, Vi.bf_int, Vi.bf_intb, Vi.bf_max2, Vi.bf_min2, Vi.bf_list_l, Vi.bf_list_t, Vi.bf_tup_l, Vi.bf_sum, Vi.ix_l, Vi.ix_t, Vi.ix_s, Vi.isiD, Vi.chain2_eq, Vi.chainK_b, Vi.iop_add, Vi.iop_sub, Vi.it_l, Vi.it_t, Vi.it_s, Vi.lentOk, Vi.outs_nil, Vi.outs_fz, Vi.outs_c, List.tail_cons, Vi.killE, Vi.noOwn, Vi.closed, Vi.closeds, Vi.closedD, Vi.closeds_ints, Vi.wipeE, Vi.resE, Vi.bd_nm, Vi.bd_tp, Vi.bdN, Vi.bdT, Vi.bdsN, Vi.bdNil, Vi.bdCons, Vi.Tg.js, Vi.partM, Vi.eq_int, Vi.eq_str, Vi.eq_bool, Vi.eq_ints, isD, rho__law_same]
  | n + 1, .int b, h => by
    show denS__law_same _ _ = _
    generalize fixD denS__law_same n = D
    simp -implicitDefEqProofs [denS__law_same, bod__law_same, b__law_same_0, b__law_same_1, b__law_same_2, b__law_same_3, Vi.bind_ok, Vi.bind_bad, Vi.bind_ex, Vi.so_ok, Vi.sb_nx, Vi.sb_ret, Vi.sb_bad, Vi.d_fz, Vi.d_olI, Vi.d_ol, Vi.o_some, Vi.tst_b, Vi.tst_i, Vi.tst_l, Vi.tst_s, Vi.tst_n, Vi.oB_some, Vi.oP_some, Vi.oL_some, Vi.rdV_fz, Vi.rdV_ol, Vi.rdV2_some, Vi.mvV_ol, Vi.mvV_fz, Vi.rdVar_c, Vi.ev_var, Vi.ev_mv, Vi.ev_int, Vi.ev_bl, Vi.ev_non, Vi.ev_str, Vi.ev_gi, Vi.ev_gs, Vi.ev_bin, Vi.ev_neg, Vi.ev_cmp, Vi.evT_cmp, Vi.ev_chain, Vi.ev_one, Vi.andK_b, Vi.orK_b, Vi.notK_b, Vi.ev_and, Vi.ev_or, Vi.ev_not, Vi.isB_b, Vi.ev_ite, Vi.ev_tup, Vi.ev_lst, Vi.ev_ix, Vi.ev_slc, Vi.evP_no, Vi.evP_yes, Vi.ev_call, Vi.calK_some, Vi.calR_ok, Vi.evA_nil, Vi.evA_e, Vi.evA_o, Vi.args_nil, Vi.args_e, Vi.args_o, Vi.argK_s, Vi.asm_nil, Vi.asm_e, Vi.asm_o, Vi.asmK_s, Vi.lent_ol, Vi.lent_sc, Vi.lent_fz, Vi.put_nil, Vi.put_e, Vi.put_o, Vi.ev_blt, Vi.ev_isi, Vi.ev_lsc, Vi.lscK_s, Vi.cmpK_ok, Vi.ev_lc, Vi.evC_no, Vi.evC_yes, Vi.evI_e, Vi.evI_r1, Vi.evI_r2, Vi.evs_nil, Vi.evs_cons, Vi.evO_nil, Vi.evO_cons, Vi.olO_s, Vi.olOf_c, Vi.appK_s, Vi.appK2_s, Vi.ev_app, Vi.ev_mt, Vi.evT_mt, Vi.appNK_s, Vi.ev_appN, Vi.inOf_c, Vi.inK_s, Vi.inK2_s, Vi.mvixK_s, Vi.ev_mvix, Vi.ev_rev, Vi.ev_repC, Vi.evT_rev, Vi.evI_en, Vi.evI_rv, Vi.evI_rg, Vi.rgK_s, Vi.asgTK_s, Vi.ex_asgT, Vi.bwsK_nx, Vi.bwsK_ret, Vi.ex_bws, Vi.ex_rais, Vi.tryK_nx, Vi.tryK_ret, Vi.ex_try, Vi.so_ex, Vi.sb_ex, Vi.d_ex, Vi.runK_ex, Vi.calR_ex, Vi.keepE, Vi.cloF, Vi.closedR, Vi.bwK_ok, Vi.ev_bw, Vi.bwK'_ok, Vi.evT_bw, Vi.evT_chain, Vi.evT_one, Vi.evT_and, Vi.evT_or, Vi.evT_not, Vi.evT_var, Vi.evT_call, Vi.evT_isi, Vi.evT_blt, Vi.evT_ix, Vi.evT_bin, Vi.evT_bl, Vi.ex_pass, Vi.ex_asg, Vi.ex_expr, Vi.ex_ret, Vi.ex_retN, Vi.ex_if, Vi.ex_for, Vi.setK_s, Vi.setK2_s, Vi.setK3_s, Vi.ex_set, Vi.ex_aug, Vi.ex_augS, Vi.augM, Vi.augSM, Vi.exs_nil, Vi.exs_cons, Vi.run_b, Vi.runK_ret, Vi.runK_nx, Vi.frzE_nil, Vi.frz_cons, Vi.frzK_ol, Vi.frzK2_s, Vi.frzK_fz, Vi.frzK_no, Vi.frzK_olI, Vi.rdV_olI, Vi.mvV_olI, Vi.olO_olI, Vi.lent_olI, Vi.closed_olI, Vi.dOf_fz, Vi.dOf_olI, Vi.dOf_olI', Vi.dsOf_fz, Vi.dsOf_ints, Vi.dsOf_nil, Vi.dsOf_cons, Option.map_some, Vi.binD, Vi.add_int, Vi.sub_int, Vi.cmpD, Vi.lt_int, Vi.le_int, Vi.gt_int, Vi.ge_int, Vi.neg_int, Vi.bf_len_l, Vi.bf_len_t, Vi.bf_len_s, Vi.bf_abs, Vi.bf_int, Vi.bf_intb, Vi.bf_max2, Vi.bf_min2, Vi.bf_list_l, Vi.bf_list_t, Vi.bf_tup_l, Vi.bf_sum, Vi.ix_l, Vi.ix_t, Vi.ix_s, Vi.isiD, Vi.chain2_eq, Vi.chainK_b, Vi.iop_add, Vi.iop_sub, Vi.it_l, Vi.it_t, Vi.it_s, Vi.lentOk, Vi.outs_nil, Vi.outs_fz, Vi.outs_c, List.tail_cons, Vi.killE, Vi.noOwn, Vi.closed, Vi.closeds, Vi.closedD, Vi.closeds_ints, Vi.wipeE, Vi.resE, Vi.bd_nm, Vi.bd_tp, Vi.bdN, Vi.bdT, Vi.bdsN, Vi.bdNil, Vi.bdCons, Vi.Tg.js, Vi.partM, Vi.eq_int, Vi.eq_str, Vi.eq_bool, Vi.eq_ints, isD, rho__law_same]
  | n + 1, .str b, h => by
    show denS__law_same _ _ = _
    generalize fixD denS__law_same n = D
    simp -implicitDefEqProofs [denS__law_same, bod__law_same, b__law_same_0, b__law_same_1, b__law_same_2, b__law_same_3, Vi.bind_ok, Vi.bind_bad, Vi.bind_ex, Vi.so_ok, Vi.sb_nx, Vi.sb_ret, Vi.sb_bad, Vi.d_fz, Vi.d_olI, Vi.d_ol, Vi.o_some, Vi.tst_b, Vi.tst_i, Vi.tst_l, Vi.tst_s, Vi.tst_n, Vi.oB_some, Vi.oP_some, Vi.oL_some, Vi.rdV_fz, Vi.rdV_ol, Vi.rdV2_some, Vi.mvV_ol, Vi.mvV_fz, Vi.rdVar_c, Vi.ev_var, Vi.ev_mv, Vi.ev_int, Vi.ev_bl, Vi.ev_non, Vi.ev_str, Vi.ev_gi, Vi.ev_gs, Vi.ev_bin, Vi.ev_neg, Vi.ev_cmp, Vi.evT_cmp, Vi.ev_chain, Vi.ev_one, Vi.andK_b, Vi.orK_b, Vi.notK_b, Vi.ev_and, Vi.ev_or, Vi.ev_not, Vi.isB_b, Vi.ev_ite, Vi.ev_tup, Vi.ev_lst, Vi.ev_ix, Vi.ev_slc, Vi.evP_no, Vi.evP_yes, Vi.ev_call, Vi.calK_some, Vi.calR_ok, Vi.evA_nil, Vi.evA_e, Vi.evA_o, Vi.args_nil, Vi.args_e, Vi.args_o, Vi.argK_s, Vi.asm_nil, Vi.asm_e, Vi.asm_o, Vi.asmK_s, Vi.lent_ol, Vi.lent_sc, Vi.lent_fz, Vi.put_nil, Vi.put_e, Vi.put_o, Vi.ev_blt, Vi.ev_isi, Vi.ev_lsc, Vi.lscK_s, Vi.cmpK_ok, Vi.ev_lc, Vi.evC_no, Vi.evC_yes, Vi.evI_e, Vi.evI_r1, Vi.evI_r2, Vi.evs_nil, Vi.evs_cons, Vi.evO_nil, Vi.evO_cons, Vi.olO_s, Vi.olOf_c, Vi.appK_s, Vi.appK2_s, Vi.ev_app, Vi.ev_mt, Vi.evT_mt, Vi.appNK_s, Vi.ev_appN, Vi.inOf_c, Vi.inK_s, Vi.inK2_s, Vi.mvixK_s, Vi.ev_mvix, Vi.ev_rev, Vi.ev_repC, Vi.evT_rev, Vi.evI_en, Vi.evI_rv, Vi.evI_rg, Vi.rgK_s, Vi.asgTK_s, Vi.ex_asgT, Vi.bwsK_nx, Vi.bwsK_ret, Vi.ex_bws, Vi.ex_rais, Vi.tryK_nx, Vi.tryK_ret, Vi.ex_try, Vi.so_ex, Vi.sb_ex, Vi.d_ex, Vi.runK_ex, Vi.calR_ex, Vi.keepE, Vi.cloF, Vi.closedR, Vi.bwK_ok, Vi.ev_bw, Vi.bwK'_ok, Vi.evT_bw, Vi.evT_chain, Vi.evT_one, Vi.evT_and, Vi.evT_or, Vi.evT_not, Vi.evT_var, Vi.evT_call, Vi.evT_isi, Vi.evT_blt, Vi.evT_ix, Vi.evT_bin, Vi.evT_bl, Vi.ex_pass, Vi.ex_asg, Vi.ex_expr, Vi.ex_ret, Vi.ex_retN, Vi.ex_if, Vi.ex_for, Vi.setK_s, Vi.setK2_s, Vi.setK3_s, Vi.ex_set, Vi.ex_aug, Vi.ex_augS, Vi.augM, Vi.augSM, Vi.exs_nil, Vi.exs_cons, Vi.run_b, Vi.runK_ret, Vi.runK_nx, Vi.frzE_nil, Vi.frz_cons, Vi.frzK_ol, Vi.frzK2_s, Vi.frzK_fz, Vi.frzK_no, Vi.frzK_olI, Vi.rdV_olI, Vi.mvV_olI, Vi.olO_olI, Vi.lent_olI, Vi.closed_olI, Vi.dOf_fz, Vi.dOf_olI, Vi.dOf_olI', Vi.dsOf_fz, Vi.dsOf_ints, Vi.dsOf_nil, Vi.dsOf_cons, Option.map_some, Vi.binD, Vi.add_int, Vi.sub_int, Vi.cmpD, Vi.lt_int, Vi.le_int, Vi.gt_int, Vi.ge_int, Vi.neg_int, Vi.bf_len_l, Vi.bf_len_t, Vi.bf_len_s, Vi.bf_abs, Vi.bf_int, Vi.bf_intb, Vi.bf_max2, Vi.bf_min2, Vi.bf_list_l, Vi.bf_list_t, Vi.bf_tup_l, Vi.bf_sum, Vi.ix_l, Vi.ix_t, Vi.ix_s, Vi.isiD, Vi.chain2_eq, Vi.chainK_b, Vi.iop_add, Vi.iop_sub, Vi.it_l, Vi.it_t, Vi.it_s, Vi.lentOk, Vi.outs_nil, Vi.outs_fz, Vi.outs_c, List.tail_cons, Vi.killE, Vi.noOwn, Vi.closed, Vi.closeds, Vi.closedD, Vi.closeds_ints, Vi.wipeE, Vi.resE, Vi.bd_nm, Vi.bd_tp, Vi.bdN, Vi.bdT, Vi.bdsN, Vi.bdNil, Vi.bdCons, Vi.Tg.js, Vi.partM, Vi.eq_int, Vi.eq_str, Vi.eq_bool, Vi.eq_ints, isD, rho__law_same]
  | n + 1, .dict _, h => h.elim
  | n + 1, .list ds, h => by
    have ih := fun d hd => same_ok n d (h.2 d hd)
    have hl := h.1
    show denS__law_same _ _ = _
    generalize fixD denS__law_same n = D at ih ⊢
    have rr := rng_natV hl
    have c : compL (bdG (.nm 2)) (evC (rho__law_same D) .no) (ev (rho__law_same D) (.call 0 (.e (.ix (.var 0) (.var 2)) (.e (.ix (.var 1) (.var 2)) .nil)))) [2] ((List.range ds.length).map fun i => .int (i : Nat)) [some (.fz (.list ds)), some (.fz (.list ds)), none] = .ok (((List.range ds.length).filter fun _ => true).map fun k => .fz (.bool true)) [some (.fz (.list ds)), some (.fz (.list ds)), none] := by
      refine compL_fm (fun _ => true) (fun k => .fz (.bool true)) _ fun x hx => ⟨[some (.fz (.list ds)), some (.fz (.list ds)), some (.fz (.int (x : Nat)))], [some (.fz (.list ds)), some (.fz (.list ds)), some (.fz (.int (x : Nat)))], ?_, ?_, ?_⟩
      · simp -implicitDefEqProofs [Vi.bind_ok, Vi.bind_bad, Vi.bind_ex, Vi.so_ok, Vi.sb_nx, Vi.sb_ret, Vi.sb_bad, Vi.d_fz, Vi.d_olI, Vi.d_ol, Vi.o_some, Vi.tst_b, Vi.tst_i, Vi.tst_l, Vi.tst_s, Vi.tst_n, Vi.oB_some, Vi.oP_some, Vi.oL_some, Vi.rdV_fz, Vi.rdV_ol, Vi.rdV2_some, Vi.mvV_ol, Vi.mvV_fz, Vi.rdVar_c, Vi.ev_var, Vi.ev_mv, Vi.ev_int, Vi.ev_bl, Vi.ev_non, Vi.ev_str, Vi.ev_gi, Vi.ev_gs, Vi.ev_bin, Vi.ev_neg, Vi.ev_cmp, Vi.evT_cmp, Vi.ev_chain, Vi.ev_one, Vi.andK_b, Vi.orK_b, Vi.notK_b, Vi.ev_and, Vi.ev_or, Vi.ev_not, Vi.isB_b, Vi.ev_ite, Vi.ev_tup, Vi.ev_lst, Vi.ev_ix, Vi.ev_slc, Vi.evP_no, Vi.evP_yes, Vi.ev_call, Vi.calK_some, Vi.calR_ok, Vi.evA_nil, Vi.evA_e, Vi.evA_o, Vi.args_nil, Vi.args_e, Vi.args_o, Vi.argK_s, Vi.asm_nil, Vi.asm_e, Vi.asm_o, Vi.asmK_s, Vi.lent_ol, Vi.lent_sc, Vi.lent_fz, Vi.put_nil, Vi.put_e, Vi.put_o, Vi.ev_blt, Vi.ev_isi, Vi.ev_lsc, Vi.lscK_s, Vi.cmpK_ok, Vi.ev_lc, Vi.evC_no, Vi.evC_yes, Vi.evI_e, Vi.evI_r1, Vi.evI_r2, Vi.evs_nil, Vi.evs_cons, Vi.evO_nil, Vi.evO_cons, Vi.olO_s, Vi.olOf_c, Vi.appK_s, Vi.appK2_s, Vi.ev_app, Vi.ev_mt, Vi.evT_mt, Vi.appNK_s, Vi.ev_appN, Vi.inOf_c, Vi.inK_s, Vi.inK2_s, Vi.mvixK_s, Vi.ev_mvix, Vi.ev_rev, Vi.ev_repC, Vi.evT_rev, Vi.evI_en, Vi.evI_rv, Vi.evI_rg, Vi.rgK_s, Vi.asgTK_s, Vi.ex_asgT, Vi.bwsK_nx, Vi.bwsK_ret, Vi.ex_bws, Vi.ex_rais, Vi.tryK_nx, Vi.tryK_ret, Vi.ex_try, Vi.so_ex, Vi.sb_ex, Vi.d_ex, Vi.runK_ex, Vi.calR_ex, Vi.keepE, Vi.cloF, Vi.closedR, Vi.bwK_ok, Vi.ev_bw, Vi.bwK'_ok, Vi.evT_bw, Vi.evT_chain, Vi.evT_one, Vi.evT_and, Vi.evT_or, Vi.evT_not, Vi.evT_var, Vi.evT_call, Vi.evT_isi, Vi.evT_blt, Vi.evT_ix, Vi.evT_bin, Vi.evT_bl, Vi.ex_pass, Vi.ex_asg, Vi.ex_expr, Vi.ex_ret, Vi.ex_retN, Vi.ex_if, Vi.ex_for, Vi.setK_s, Vi.setK2_s, Vi.setK3_s, Vi.ex_set, Vi.ex_aug, Vi.ex_augS, Vi.augM, Vi.augSM, Vi.exs_nil, Vi.exs_cons, Vi.run_b, Vi.runK_ret, Vi.runK_nx, Vi.frzE_nil, Vi.frz_cons, Vi.frzK_ol, Vi.frzK2_s, Vi.frzK_fz, Vi.frzK_no, Vi.frzK_olI, Vi.rdV_olI, Vi.mvV_olI, Vi.olO_olI, Vi.lent_olI, Vi.closed_olI, Vi.dOf_fz, Vi.dOf_olI, Vi.dOf_olI', Vi.dsOf_fz, Vi.dsOf_ints, Vi.dsOf_nil, Vi.dsOf_cons, Option.map_some, Vi.binD, Vi.add_int, Vi.sub_int, Vi.cmpD, Vi.lt_int, Vi.le_int, Vi.gt_int, Vi.ge_int, Vi.neg_int, Vi.bf_len_l, Vi.bf_len_t, Vi.bf_len_s, Vi.bf_abs, Vi.bf_int, Vi.bf_intb, Vi.bf_max2, Vi.bf_min2, Vi.bf_list_l, Vi.bf_list_t, Vi.bf_tup_l, Vi.bf_sum, Vi.ix_l, Vi.ix_t, Vi.ix_s, Vi.isiD, Vi.chain2_eq, Vi.chainK_b, Vi.iop_add, Vi.iop_sub, Vi.it_l, Vi.it_t, Vi.it_s, Vi.lentOk, Vi.outs_nil, Vi.outs_fz, Vi.outs_c, List.tail_cons, Vi.killE, Vi.noOwn, Vi.closed, Vi.closeds, Vi.closedD, Vi.closeds_ints, Vi.wipeE, Vi.resE, Vi.bd_nm, Vi.bd_tp, Vi.bdN, Vi.bdT, Vi.bdsN, Vi.bdNil, Vi.bdCons, Vi.Tg.js, Vi.partM, Vi.eq_int, Vi.eq_str, Vi.eq_bool, Vi.eq_ints]
      · simp -implicitDefEqProofs [Vi.bind_ok, Vi.bind_bad, Vi.bind_ex, Vi.so_ok, Vi.sb_nx, Vi.sb_ret, Vi.sb_bad, Vi.d_fz, Vi.d_olI, Vi.d_ol, Vi.o_some, Vi.tst_b, Vi.tst_i, Vi.tst_l, Vi.tst_s, Vi.tst_n, Vi.oB_some, Vi.oP_some, Vi.oL_some, Vi.rdV_fz, Vi.rdV_ol, Vi.rdV2_some, Vi.mvV_ol, Vi.mvV_fz, Vi.rdVar_c, Vi.ev_var, Vi.ev_mv, Vi.ev_int, Vi.ev_bl, Vi.ev_non, Vi.ev_str, Vi.ev_gi, Vi.ev_gs, Vi.ev_bin, Vi.ev_neg, Vi.ev_cmp, Vi.evT_cmp, Vi.ev_chain, Vi.ev_one, Vi.andK_b, Vi.orK_b, Vi.notK_b, Vi.ev_and, Vi.ev_or, Vi.ev_not, Vi.isB_b, Vi.ev_ite, Vi.ev_tup, Vi.ev_lst, Vi.ev_ix, Vi.ev_slc, Vi.evP_no, Vi.evP_yes, Vi.ev_call, Vi.calK_some, Vi.calR_ok, Vi.evA_nil, Vi.evA_e, Vi.evA_o, Vi.args_nil, Vi.args_e, Vi.args_o, Vi.argK_s, Vi.asm_nil, Vi.asm_e, Vi.asm_o, Vi.asmK_s, Vi.lent_ol, Vi.lent_sc, Vi.lent_fz, Vi.put_nil, Vi.put_e, Vi.put_o, Vi.ev_blt, Vi.ev_isi, Vi.ev_lsc, Vi.lscK_s, Vi.cmpK_ok, Vi.ev_lc, Vi.evC_no, Vi.evC_yes, Vi.evI_e, Vi.evI_r1, Vi.evI_r2, Vi.evs_nil, Vi.evs_cons, Vi.evO_nil, Vi.evO_cons, Vi.olO_s, Vi.olOf_c, Vi.appK_s, Vi.appK2_s, Vi.ev_app, Vi.ev_mt, Vi.evT_mt, Vi.appNK_s, Vi.ev_appN, Vi.inOf_c, Vi.inK_s, Vi.inK2_s, Vi.mvixK_s, Vi.ev_mvix, Vi.ev_rev, Vi.ev_repC, Vi.evT_rev, Vi.evI_en, Vi.evI_rv, Vi.evI_rg, Vi.rgK_s, Vi.asgTK_s, Vi.ex_asgT, Vi.bwsK_nx, Vi.bwsK_ret, Vi.ex_bws, Vi.ex_rais, Vi.tryK_nx, Vi.tryK_ret, Vi.ex_try, Vi.so_ex, Vi.sb_ex, Vi.d_ex, Vi.runK_ex, Vi.calR_ex, Vi.keepE, Vi.cloF, Vi.closedR, Vi.bwK_ok, Vi.ev_bw, Vi.bwK'_ok, Vi.evT_bw, Vi.evT_chain, Vi.evT_one, Vi.evT_and, Vi.evT_or, Vi.evT_not, Vi.evT_var, Vi.evT_call, Vi.evT_isi, Vi.evT_blt, Vi.evT_ix, Vi.evT_bin, Vi.evT_bl, Vi.ex_pass, Vi.ex_asg, Vi.ex_expr, Vi.ex_ret, Vi.ex_retN, Vi.ex_if, Vi.ex_for, Vi.setK_s, Vi.setK2_s, Vi.setK3_s, Vi.ex_set, Vi.ex_aug, Vi.ex_augS, Vi.augM, Vi.augSM, Vi.exs_nil, Vi.exs_cons, Vi.run_b, Vi.runK_ret, Vi.runK_nx, Vi.frzE_nil, Vi.frz_cons, Vi.frzK_ol, Vi.frzK2_s, Vi.frzK_fz, Vi.frzK_no, Vi.frzK_olI, Vi.rdV_olI, Vi.mvV_olI, Vi.olO_olI, Vi.lent_olI, Vi.closed_olI, Vi.dOf_fz, Vi.dOf_olI, Vi.dOf_olI', Vi.dsOf_fz, Vi.dsOf_ints, Vi.dsOf_nil, Vi.dsOf_cons, Option.map_some, Vi.binD, Vi.add_int, Vi.sub_int, Vi.cmpD, Vi.lt_int, Vi.le_int, Vi.gt_int, Vi.ge_int, Vi.neg_int, Vi.bf_len_l, Vi.bf_len_t, Vi.bf_len_s, Vi.bf_abs, Vi.bf_int, Vi.bf_intb, Vi.bf_max2, Vi.bf_min2, Vi.bf_list_l, Vi.bf_list_t, Vi.bf_tup_l, Vi.bf_sum, Vi.ix_l, Vi.ix_t, Vi.ix_s, Vi.isiD, Vi.chain2_eq, Vi.chainK_b, Vi.iop_add, Vi.iop_sub, Vi.it_l, Vi.it_t, Vi.it_s, Vi.lentOk, Vi.outs_nil, Vi.outs_fz, Vi.outs_c, List.tail_cons, Vi.killE, Vi.noOwn, Vi.closed, Vi.closeds, Vi.closedD, Vi.closeds_ints, Vi.wipeE, Vi.resE, Vi.bd_nm, Vi.bd_tp, Vi.bdN, Vi.bdT, Vi.bdsN, Vi.bdNil, Vi.bdCons, Vi.Tg.js, Vi.partM, Vi.eq_int, Vi.eq_str, Vi.eq_bool, Vi.eq_ints]
      · have hx : x < ds.length := List.mem_range.mp hx
        have a1 : ixD (.list ds) (.int (x : Nat)) = some ds[x] := by rw [ix_l, atI_nat]; simp [hx]
        have a2 := ih ds[x] (List.getElem_mem _)
        simp -implicitDefEqProofs [Vi.bind_ok, Vi.bind_bad, Vi.bind_ex, Vi.so_ok, Vi.sb_nx, Vi.sb_ret, Vi.sb_bad, Vi.d_fz, Vi.d_olI, Vi.d_ol, Vi.o_some, Vi.tst_b, Vi.tst_i, Vi.tst_l, Vi.tst_s, Vi.tst_n, Vi.oB_some, Vi.oP_some, Vi.oL_some, Vi.rdV_fz, Vi.rdV_ol, Vi.rdV2_some, Vi.mvV_ol, Vi.mvV_fz, Vi.rdVar_c, Vi.ev_var, Vi.ev_mv, Vi.ev_int, Vi.ev_bl, Vi.ev_non, Vi.ev_str, Vi.ev_gi, Vi.ev_gs, Vi.ev_bin, Vi.ev_neg, Vi.ev_cmp, Vi.evT_cmp, Vi.ev_chain, Vi.ev_one, Vi.andK_b, Vi.orK_b, Vi.notK_b, Vi.ev_and, Vi.ev_or, Vi.ev_not, Vi.isB_b, Vi.ev_ite, Vi.ev_tup, Vi.ev_lst, Vi.ev_ix, Vi.ev_slc, Vi.evP_no, Vi.evP_yes, Vi.ev_call, Vi.calK_some, Vi.calR_ok, Vi.evA_nil, Vi.evA_e, Vi.evA_o, Vi.args_nil, Vi.args_e, Vi.args_o, Vi.argK_s, Vi.asm_nil, Vi.asm_e, Vi.asm_o, Vi.asmK_s, Vi.lent_ol, Vi.lent_sc, Vi.lent_fz, Vi.put_nil, Vi.put_e, Vi.put_o, Vi.ev_blt, Vi.ev_isi, Vi.ev_lsc, Vi.lscK_s, Vi.cmpK_ok, Vi.ev_lc, Vi.evC_no, Vi.evC_yes, Vi.evI_e, Vi.evI_r1, Vi.evI_r2, Vi.evs_nil, Vi.evs_cons, Vi.evO_nil, Vi.evO_cons, Vi.olO_s, Vi.olOf_c, Vi.appK_s, Vi.appK2_s, Vi.ev_app, Vi.ev_mt, Vi.evT_mt, Vi.appNK_s, Vi.ev_appN, Vi.inOf_c, Vi.inK_s, Vi.inK2_s, Vi.mvixK_s, Vi.ev_mvix, Vi.ev_rev, Vi.ev_repC, Vi.evT_rev, Vi.evI_en, Vi.evI_rv, Vi.evI_rg, Vi.rgK_s, Vi.asgTK_s, Vi.ex_asgT, Vi.bwsK_nx, Vi.bwsK_ret, Vi.ex_bws, Vi.ex_rais, Vi.tryK_nx, Vi.tryK_ret, Vi.ex_try, Vi.so_ex, Vi.sb_ex, Vi.d_ex, Vi.runK_ex, Vi.calR_ex, Vi.keepE, Vi.cloF, Vi.closedR, Vi.bwK_ok, Vi.ev_bw, Vi.bwK'_ok, Vi.evT_bw, Vi.evT_chain, Vi.evT_one, Vi.evT_and, Vi.evT_or, Vi.evT_not, Vi.evT_var, Vi.evT_call, Vi.evT_isi, Vi.evT_blt, Vi.evT_ix, Vi.evT_bin, Vi.evT_bl, Vi.ex_pass, Vi.ex_asg, Vi.ex_expr, Vi.ex_ret, Vi.ex_retN, Vi.ex_if, Vi.ex_for, Vi.setK_s, Vi.setK2_s, Vi.setK3_s, Vi.ex_set, Vi.ex_aug, Vi.ex_augS, Vi.augM, Vi.augSM, Vi.exs_nil, Vi.exs_cons, Vi.run_b, Vi.runK_ret, Vi.runK_nx, Vi.frzE_nil, Vi.frz_cons, Vi.frzK_ol, Vi.frzK2_s, Vi.frzK_fz, Vi.frzK_no, Vi.frzK_olI, Vi.rdV_olI, Vi.mvV_olI, Vi.olO_olI, Vi.lent_olI, Vi.closed_olI, Vi.dOf_fz, Vi.dOf_olI, Vi.dOf_olI', Vi.dsOf_fz, Vi.dsOf_ints, Vi.dsOf_nil, Vi.dsOf_cons, Option.map_some, Vi.binD, Vi.add_int, Vi.sub_int, Vi.cmpD, Vi.lt_int, Vi.le_int, Vi.gt_int, Vi.ge_int, Vi.neg_int, Vi.bf_len_l, Vi.bf_len_t, Vi.bf_len_s, Vi.bf_abs, Vi.bf_int, Vi.bf_intb, Vi.bf_max2, Vi.bf_min2, Vi.bf_list_l, Vi.bf_list_t, Vi.bf_tup_l, Vi.bf_sum, Vi.ix_l, Vi.ix_t, Vi.ix_s, Vi.isiD, Vi.chain2_eq, Vi.chainK_b, Vi.iop_add, Vi.iop_sub, Vi.it_l, Vi.it_t, Vi.it_s, Vi.lentOk, Vi.outs_nil, Vi.outs_fz, Vi.outs_c, List.tail_cons, Vi.killE, Vi.noOwn, Vi.closed, Vi.closeds, Vi.closedD, Vi.closeds_ints, Vi.wipeE, Vi.resE, Vi.bd_nm, Vi.bd_tp, Vi.bdN, Vi.bdT, Vi.bdsN, Vi.bdNil, Vi.bdCons, Vi.Tg.js, Vi.partM, Vi.eq_int, Vi.eq_str, Vi.eq_bool, Vi.eq_ints, rho__law_same, a1, a2]
    have e : (List.range ds.length).filter (fun _ => true) = List.range ds.length := by simp
    rw [e] at c
    have dm := dsOf_mapV (g := fun _ : Nat => PyData.bool true) (l := List.range ds.length)
    have ba := all_true (l := List.range ds.length)
    simp -implicitDefEqProofs [denS__law_same, bod__law_same, b__law_same_0, b__law_same_1, b__law_same_2, b__law_same_3, Vi.bind_ok, Vi.bind_bad, Vi.bind_ex, Vi.so_ok, Vi.sb_nx, Vi.sb_ret, Vi.sb_bad, Vi.d_fz, Vi.d_olI, Vi.d_ol, Vi.o_some, Vi.tst_b, Vi.tst_i, Vi.tst_l, Vi.tst_s, Vi.tst_n, Vi.oB_some, Vi.oP_some, Vi.oL_some, Vi.rdV_fz, Vi.rdV_ol, Vi.rdV2_some, Vi.mvV_ol, Vi.mvV_fz, Vi.rdVar_c, Vi.ev_var, Vi.ev_mv, Vi.ev_int, Vi.ev_bl, Vi.ev_non, Vi.ev_str, Vi.ev_gi, Vi.ev_gs, Vi.ev_bin, Vi.ev_neg, Vi.ev_cmp, Vi.evT_cmp, Vi.ev_chain, Vi.ev_one, Vi.andK_b, Vi.orK_b, Vi.notK_b, Vi.ev_and, Vi.ev_or, Vi.ev_not, Vi.isB_b, Vi.ev_ite, Vi.ev_tup, Vi.ev_lst, Vi.ev_ix, Vi.ev_slc, Vi.evP_no, Vi.evP_yes, Vi.ev_call, Vi.calK_some, Vi.calR_ok, Vi.evA_nil, Vi.evA_e, Vi.evA_o, Vi.args_nil, Vi.args_e, Vi.args_o, Vi.argK_s, Vi.asm_nil, Vi.asm_e, Vi.asm_o, Vi.asmK_s, Vi.lent_ol, Vi.lent_sc, Vi.lent_fz, Vi.put_nil, Vi.put_e, Vi.put_o, Vi.ev_blt, Vi.ev_isi, Vi.ev_lsc, Vi.lscK_s, Vi.cmpK_ok, Vi.ev_lc, Vi.evC_no, Vi.evC_yes, Vi.evI_e, Vi.evI_r1, Vi.evI_r2, Vi.evs_nil, Vi.evs_cons, Vi.evO_nil, Vi.evO_cons, Vi.olO_s, Vi.olOf_c, Vi.appK_s, Vi.appK2_s, Vi.ev_app, Vi.ev_mt, Vi.evT_mt, Vi.appNK_s, Vi.ev_appN, Vi.inOf_c, Vi.inK_s, Vi.inK2_s, Vi.mvixK_s, Vi.ev_mvix, Vi.ev_rev, Vi.ev_repC, Vi.evT_rev, Vi.evI_en, Vi.evI_rv, Vi.evI_rg, Vi.rgK_s, Vi.asgTK_s, Vi.ex_asgT, Vi.bwsK_nx, Vi.bwsK_ret, Vi.ex_bws, Vi.ex_rais, Vi.tryK_nx, Vi.tryK_ret, Vi.ex_try, Vi.so_ex, Vi.sb_ex, Vi.d_ex, Vi.runK_ex, Vi.calR_ex, Vi.keepE, Vi.cloF, Vi.closedR, Vi.bwK_ok, Vi.ev_bw, Vi.bwK'_ok, Vi.evT_bw, Vi.evT_chain, Vi.evT_one, Vi.evT_and, Vi.evT_or, Vi.evT_not, Vi.evT_var, Vi.evT_call, Vi.evT_isi, Vi.evT_blt, Vi.evT_ix, Vi.evT_bin, Vi.evT_bl, Vi.ex_pass, Vi.ex_asg, Vi.ex_expr, Vi.ex_ret, Vi.ex_retN, Vi.ex_if, Vi.ex_for, Vi.setK_s, Vi.setK2_s, Vi.setK3_s, Vi.ex_set, Vi.ex_aug, Vi.ex_augS, Vi.augM, Vi.augSM, Vi.exs_nil, Vi.exs_cons, Vi.run_b, Vi.runK_ret, Vi.runK_nx, Vi.frzE_nil, Vi.frz_cons, Vi.frzK_ol, Vi.frzK2_s, Vi.frzK_fz, Vi.frzK_no, Vi.frzK_olI, Vi.rdV_olI, Vi.mvV_olI, Vi.olO_olI, Vi.lent_olI, Vi.closed_olI, Vi.dOf_fz, Vi.dOf_olI, Vi.dOf_olI', Vi.dsOf_fz, Vi.dsOf_ints, Vi.dsOf_nil, Vi.dsOf_cons, Option.map_some, Vi.binD, Vi.add_int, Vi.sub_int, Vi.cmpD, Vi.lt_int, Vi.le_int, Vi.gt_int, Vi.ge_int, Vi.neg_int, Vi.bf_len_l, Vi.bf_len_t, Vi.bf_len_s, Vi.bf_abs, Vi.bf_int, Vi.bf_intb, Vi.bf_max2, Vi.bf_min2, Vi.bf_list_l, Vi.bf_list_t, Vi.bf_tup_l, Vi.bf_sum, Vi.ix_l, Vi.ix_t, Vi.ix_s, Vi.isiD, Vi.chain2_eq, Vi.chainK_b, Vi.iop_add, Vi.iop_sub, Vi.it_l, Vi.it_t, Vi.it_s, Vi.lentOk, Vi.outs_nil, Vi.outs_fz, Vi.outs_c, List.tail_cons, Vi.killE, Vi.noOwn, Vi.closed, Vi.closeds, Vi.closedD, Vi.closeds_ints, Vi.wipeE, Vi.resE, Vi.bd_nm, Vi.bd_tp, Vi.bdN, Vi.bdT, Vi.bdsN, Vi.bdNil, Vi.bdCons, Vi.Tg.js, Vi.partM, Vi.eq_int, Vi.eq_str, Vi.eq_bool, Vi.eq_ints, rr, c, dm, ba]
  | n + 1, .tuple ds, h => by
    have ih := fun d hd => same_ok n d (h.2 d hd)
    have hl := h.1
    show denS__law_same _ _ = _
    generalize fixD denS__law_same n = D at ih ⊢
    have rr := rng_natV hl
    have c : compL (bdG (.nm 2)) (evC (rho__law_same D) .no) (ev (rho__law_same D) (.call 0 (.e (.ix (.var 0) (.var 2)) (.e (.ix (.var 1) (.var 2)) .nil)))) [2] ((List.range ds.length).map fun i => .int (i : Nat)) [some (.fz (.tuple ds)), some (.fz (.tuple ds)), none] = .ok (((List.range ds.length).filter fun _ => true).map fun k => .fz (.bool true)) [some (.fz (.tuple ds)), some (.fz (.tuple ds)), none] := by
      refine compL_fm (fun _ => true) (fun k => .fz (.bool true)) _ fun x hx => ⟨[some (.fz (.tuple ds)), some (.fz (.tuple ds)), some (.fz (.int (x : Nat)))], [some (.fz (.tuple ds)), some (.fz (.tuple ds)), some (.fz (.int (x : Nat)))], ?_, ?_, ?_⟩
      · simp -implicitDefEqProofs [Vi.bind_ok, Vi.bind_bad, Vi.bind_ex, Vi.so_ok, Vi.sb_nx, Vi.sb_ret, Vi.sb_bad, Vi.d_fz, Vi.d_olI, Vi.d_ol, Vi.o_some, Vi.tst_b, Vi.tst_i, Vi.tst_l, Vi.tst_s, Vi.tst_n, Vi.oB_some, Vi.oP_some, Vi.oL_some, Vi.rdV_fz, Vi.rdV_ol, Vi.rdV2_some, Vi.mvV_ol, Vi.mvV_fz, Vi.rdVar_c, Vi.ev_var, Vi.ev_mv, Vi.ev_int, Vi.ev_bl, Vi.ev_non, Vi.ev_str, Vi.ev_gi, Vi.ev_gs, Vi.ev_bin, Vi.ev_neg, Vi.ev_cmp, Vi.evT_cmp, Vi.ev_chain, Vi.ev_one, Vi.andK_b, Vi.orK_b, Vi.notK_b, Vi.ev_and, Vi.ev_or, Vi.ev_not, Vi.isB_b, Vi.ev_ite, Vi.ev_tup, Vi.ev_lst, Vi.ev_ix, Vi.ev_slc, Vi.evP_no, Vi.evP_yes, Vi.ev_call, Vi.calK_some, Vi.calR_ok, Vi.evA_nil, Vi.evA_e, Vi.evA_o, Vi.args_nil, Vi.args_e, Vi.args_o, Vi.argK_s, Vi.asm_nil, Vi.asm_e, Vi.asm_o, Vi.asmK_s, Vi.lent_ol, Vi.lent_sc, Vi.lent_fz, Vi.put_nil, Vi.put_e, Vi.put_o, Vi.ev_blt, Vi.ev_isi, Vi.ev_lsc, Vi.lscK_s, Vi.cmpK_ok, Vi.ev_lc, Vi.evC_no, Vi.evC_yes, Vi.evI_e, Vi.evI_r1, Vi.evI_r2, Vi.evs_nil, Vi.evs_cons, Vi.evO_nil, Vi.evO_cons, Vi.olO_s, Vi.olOf_c, Vi.appK_s, Vi.appK2_s, Vi.ev_app, Vi.ev_mt, Vi.evT_mt, Vi.appNK_s, Vi.ev_appN, Vi.inOf_c, Vi.inK_s, Vi.inK2_s, Vi.mvixK_s, Vi.ev_mvix, Vi.ev_rev, Vi.ev_repC, Vi.evT_rev, Vi.evI_en, Vi.evI_rv, Vi.evI_rg, Vi.rgK_s, Vi.asgTK_s, Vi.ex_asgT, Vi.bwsK_nx, Vi.bwsK_ret, Vi.ex_bws, Vi.ex_rais, Vi.tryK_nx, Vi.tryK_ret, Vi.ex_try, Vi.so_ex, Vi.sb_ex, Vi.d_ex, Vi.runK_ex, Vi.calR_ex, Vi.keepE, Vi.cloF, Vi.closedR, Vi.bwK_ok, Vi.ev_bw, Vi.bwK'_ok, Vi.evT_bw, Vi.evT_chain, Vi.evT_one, Vi.evT_and, Vi.evT_or, Vi.evT_not, Vi.evT_var, Vi.evT_call, Vi.evT_isi, Vi.evT_blt, Vi.evT_ix, Vi.evT_bin, Vi.evT_bl, Vi.ex_pass, Vi.ex_asg, Vi.ex_expr, Vi.ex_ret, Vi.ex_retN, Vi.ex_if, Vi.ex_for, Vi.setK_s, Vi.setK2_s, Vi.setK3_s, Vi.ex_set, Vi.ex_aug, Vi.ex_augS, Vi.augM, Vi.augSM, Vi.exs_nil, Vi.exs_cons, Vi.run_b, Vi.runK_ret, Vi.runK_nx, Vi.frzE_nil, Vi.frz_cons, Vi.frzK_ol, Vi.frzK2_s, Vi.frzK_fz, Vi.frzK_no, Vi.frzK_olI, Vi.rdV_olI, Vi.mvV_olI, Vi.olO_olI, Vi.lent_olI, Vi.closed_olI, Vi.dOf_fz, Vi.dOf_olI, Vi.dOf_olI', Vi.dsOf_fz, Vi.dsOf_ints, Vi.dsOf_nil, Vi.dsOf_cons, Option.map_some, Vi.binD, Vi.add_int, Vi.sub_int, Vi.cmpD, Vi.lt_int, Vi.le_int, Vi.gt_int, Vi.ge_int, Vi.neg_int, Vi.bf_len_l, Vi.bf_len_t, Vi.bf_len_s, Vi.bf_abs, Vi.bf_int, Vi.bf_intb, Vi.bf_max2, Vi.bf_min2, Vi.bf_list_l, Vi.bf_list_t, Vi.bf_tup_l, Vi.bf_sum, Vi.ix_l, Vi.ix_t, Vi.ix_s, Vi.isiD, Vi.chain2_eq, Vi.chainK_b, Vi.iop_add, Vi.iop_sub, Vi.it_l, Vi.it_t, Vi.it_s, Vi.lentOk, Vi.outs_nil, Vi.outs_fz, Vi.outs_c, List.tail_cons, Vi.killE, Vi.noOwn, Vi.closed, Vi.closeds, Vi.closedD, Vi.closeds_ints, Vi.wipeE, Vi.resE, Vi.bd_nm, Vi.bd_tp, Vi.bdN, Vi.bdT, Vi.bdsN, Vi.bdNil, Vi.bdCons, Vi.Tg.js, Vi.partM, Vi.eq_int, Vi.eq_str, Vi.eq_bool, Vi.eq_ints]
      · simp -implicitDefEqProofs [Vi.bind_ok, Vi.bind_bad, Vi.bind_ex, Vi.so_ok, Vi.sb_nx, Vi.sb_ret, Vi.sb_bad, Vi.d_fz, Vi.d_olI, Vi.d_ol, Vi.o_some, Vi.tst_b, Vi.tst_i, Vi.tst_l, Vi.tst_s, Vi.tst_n, Vi.oB_some, Vi.oP_some, Vi.oL_some, Vi.rdV_fz, Vi.rdV_ol, Vi.rdV2_some, Vi.mvV_ol, Vi.mvV_fz, Vi.rdVar_c, Vi.ev_var, Vi.ev_mv, Vi.ev_int, Vi.ev_bl, Vi.ev_non, Vi.ev_str, Vi.ev_gi, Vi.ev_gs, Vi.ev_bin, Vi.ev_neg, Vi.ev_cmp, Vi.evT_cmp, Vi.ev_chain, Vi.ev_one, Vi.andK_b, Vi.orK_b, Vi.notK_b, Vi.ev_and, Vi.ev_or, Vi.ev_not, Vi.isB_b, Vi.ev_ite, Vi.ev_tup, Vi.ev_lst, Vi.ev_ix, Vi.ev_slc, Vi.evP_no, Vi.evP_yes, Vi.ev_call, Vi.calK_some, Vi.calR_ok, Vi.evA_nil, Vi.evA_e, Vi.evA_o, Vi.args_nil, Vi.args_e, Vi.args_o, Vi.argK_s, Vi.asm_nil, Vi.asm_e, Vi.asm_o, Vi.asmK_s, Vi.lent_ol, Vi.lent_sc, Vi.lent_fz, Vi.put_nil, Vi.put_e, Vi.put_o, Vi.ev_blt, Vi.ev_isi, Vi.ev_lsc, Vi.lscK_s, Vi.cmpK_ok, Vi.ev_lc, Vi.evC_no, Vi.evC_yes, Vi.evI_e, Vi.evI_r1, Vi.evI_r2, Vi.evs_nil, Vi.evs_cons, Vi.evO_nil, Vi.evO_cons, Vi.olO_s, Vi.olOf_c, Vi.appK_s, Vi.appK2_s, Vi.ev_app, Vi.ev_mt, Vi.evT_mt, Vi.appNK_s, Vi.ev_appN, Vi.inOf_c, Vi.inK_s, Vi.inK2_s, Vi.mvixK_s, Vi.ev_mvix, Vi.ev_rev, Vi.ev_repC, Vi.evT_rev, Vi.evI_en, Vi.evI_rv, Vi.evI_rg, Vi.rgK_s, Vi.asgTK_s, Vi.ex_asgT, Vi.bwsK_nx, Vi.bwsK_ret, Vi.ex_bws, Vi.ex_rais, Vi.tryK_nx, Vi.tryK_ret, Vi.ex_try, Vi.so_ex, Vi.sb_ex, Vi.d_ex, Vi.runK_ex, Vi.calR_ex, Vi.keepE, Vi.cloF, Vi.closedR, Vi.bwK_ok, Vi.ev_bw, Vi.bwK'_ok, Vi.evT_bw, Vi.evT_chain, Vi.evT_one, Vi.evT_and, Vi.evT_or, Vi.evT_not, Vi.evT_var, Vi.evT_call, Vi.evT_isi, Vi.evT_blt, Vi.evT_ix, Vi.evT_bin, Vi.evT_bl, Vi.ex_pass, Vi.ex_asg, Vi.ex_expr, Vi.ex_ret, Vi.ex_retN, Vi.ex_if, Vi.ex_for, Vi.setK_s, Vi.setK2_s, Vi.setK3_s, Vi.ex_set, Vi.ex_aug, Vi.ex_augS, Vi.augM, Vi.augSM, Vi.exs_nil, Vi.exs_cons, Vi.run_b, Vi.runK_ret, Vi.runK_nx, Vi.frzE_nil, Vi.frz_cons, Vi.frzK_ol, Vi.frzK2_s, Vi.frzK_fz, Vi.frzK_no, Vi.frzK_olI, Vi.rdV_olI, Vi.mvV_olI, Vi.olO_olI, Vi.lent_olI, Vi.closed_olI, Vi.dOf_fz, Vi.dOf_olI, Vi.dOf_olI', Vi.dsOf_fz, Vi.dsOf_ints, Vi.dsOf_nil, Vi.dsOf_cons, Option.map_some, Vi.binD, Vi.add_int, Vi.sub_int, Vi.cmpD, Vi.lt_int, Vi.le_int, Vi.gt_int, Vi.ge_int, Vi.neg_int, Vi.bf_len_l, Vi.bf_len_t, Vi.bf_len_s, Vi.bf_abs, Vi.bf_int, Vi.bf_intb, Vi.bf_max2, Vi.bf_min2, Vi.bf_list_l, Vi.bf_list_t, Vi.bf_tup_l, Vi.bf_sum, Vi.ix_l, Vi.ix_t, Vi.ix_s, Vi.isiD, Vi.chain2_eq, Vi.chainK_b, Vi.iop_add, Vi.iop_sub, Vi.it_l, Vi.it_t, Vi.it_s, Vi.lentOk, Vi.outs_nil, Vi.outs_fz, Vi.outs_c, List.tail_cons, Vi.killE, Vi.noOwn, Vi.closed, Vi.closeds, Vi.closedD, Vi.closeds_ints, Vi.wipeE, Vi.resE, Vi.bd_nm, Vi.bd_tp, Vi.bdN, Vi.bdT, Vi.bdsN, Vi.bdNil, Vi.bdCons, Vi.Tg.js, Vi.partM, Vi.eq_int, Vi.eq_str, Vi.eq_bool, Vi.eq_ints]
      · have hx : x < ds.length := List.mem_range.mp hx
        have a1 : ixD (.tuple ds) (.int (x : Nat)) = some ds[x] := by rw [ix_t, atI_nat]; simp [hx]
        have a2 := ih ds[x] (List.getElem_mem _)
        simp -implicitDefEqProofs [Vi.bind_ok, Vi.bind_bad, Vi.bind_ex, Vi.so_ok, Vi.sb_nx, Vi.sb_ret, Vi.sb_bad, Vi.d_fz, Vi.d_olI, Vi.d_ol, Vi.o_some, Vi.tst_b, Vi.tst_i, Vi.tst_l, Vi.tst_s, Vi.tst_n, Vi.oB_some, Vi.oP_some, Vi.oL_some, Vi.rdV_fz, Vi.rdV_ol, Vi.rdV2_some, Vi.mvV_ol, Vi.mvV_fz, Vi.rdVar_c, Vi.ev_var, Vi.ev_mv, Vi.ev_int, Vi.ev_bl, Vi.ev_non, Vi.ev_str, Vi.ev_gi, Vi.ev_gs, Vi.ev_bin, Vi.ev_neg, Vi.ev_cmp, Vi.evT_cmp, Vi.ev_chain, Vi.ev_one, Vi.andK_b, Vi.orK_b, Vi.notK_b, Vi.ev_and, Vi.ev_or, Vi.ev_not, Vi.isB_b, Vi.ev_ite, Vi.ev_tup, Vi.ev_lst, Vi.ev_ix, Vi.ev_slc, Vi.evP_no, Vi.evP_yes, Vi.ev_call, Vi.calK_some, Vi.calR_ok, Vi.evA_nil, Vi.evA_e, Vi.evA_o, Vi.args_nil, Vi.args_e, Vi.args_o, Vi.argK_s, Vi.asm_nil, Vi.asm_e, Vi.asm_o, Vi.asmK_s, Vi.lent_ol, Vi.lent_sc, Vi.lent_fz, Vi.put_nil, Vi.put_e, Vi.put_o, Vi.ev_blt, Vi.ev_isi, Vi.ev_lsc, Vi.lscK_s, Vi.cmpK_ok, Vi.ev_lc, Vi.evC_no, Vi.evC_yes, Vi.evI_e, Vi.evI_r1, Vi.evI_r2, Vi.evs_nil, Vi.evs_cons, Vi.evO_nil, Vi.evO_cons, Vi.olO_s, Vi.olOf_c, Vi.appK_s, Vi.appK2_s, Vi.ev_app, Vi.ev_mt, Vi.evT_mt, Vi.appNK_s, Vi.ev_appN, Vi.inOf_c, Vi.inK_s, Vi.inK2_s, Vi.mvixK_s, Vi.ev_mvix, Vi.ev_rev, Vi.ev_repC, Vi.evT_rev, Vi.evI_en, Vi.evI_rv, Vi.evI_rg, Vi.rgK_s, Vi.asgTK_s, Vi.ex_asgT, Vi.bwsK_nx, Vi.bwsK_ret, Vi.ex_bws, Vi.ex_rais, Vi.tryK_nx, Vi.tryK_ret, Vi.ex_try, Vi.so_ex, Vi.sb_ex, Vi.d_ex, Vi.runK_ex, Vi.calR_ex, Vi.keepE, Vi.cloF, Vi.closedR, Vi.bwK_ok, Vi.ev_bw, Vi.bwK'_ok, Vi.evT_bw, Vi.evT_chain, Vi.evT_one, Vi.evT_and, Vi.evT_or, Vi.evT_not, Vi.evT_var, Vi.evT_call, Vi.evT_isi, Vi.evT_blt, Vi.evT_ix, Vi.evT_bin, Vi.evT_bl, Vi.ex_pass, Vi.ex_asg, Vi.ex_expr, Vi.ex_ret, Vi.ex_retN, Vi.ex_if, Vi.ex_for, Vi.setK_s, Vi.setK2_s, Vi.setK3_s, Vi.ex_set, Vi.ex_aug, Vi.ex_augS, Vi.augM, Vi.augSM, Vi.exs_nil, Vi.exs_cons, Vi.run_b, Vi.runK_ret, Vi.runK_nx, Vi.frzE_nil, Vi.frz_cons, Vi.frzK_ol, Vi.frzK2_s, Vi.frzK_fz, Vi.frzK_no, Vi.frzK_olI, Vi.rdV_olI, Vi.mvV_olI, Vi.olO_olI, Vi.lent_olI, Vi.closed_olI, Vi.dOf_fz, Vi.dOf_olI, Vi.dOf_olI', Vi.dsOf_fz, Vi.dsOf_ints, Vi.dsOf_nil, Vi.dsOf_cons, Option.map_some, Vi.binD, Vi.add_int, Vi.sub_int, Vi.cmpD, Vi.lt_int, Vi.le_int, Vi.gt_int, Vi.ge_int, Vi.neg_int, Vi.bf_len_l, Vi.bf_len_t, Vi.bf_len_s, Vi.bf_abs, Vi.bf_int, Vi.bf_intb, Vi.bf_max2, Vi.bf_min2, Vi.bf_list_l, Vi.bf_list_t, Vi.bf_tup_l, Vi.bf_sum, Vi.ix_l, Vi.ix_t, Vi.ix_s, Vi.isiD, Vi.chain2_eq, Vi.chainK_b, Vi.iop_add, Vi.iop_sub, Vi.it_l, Vi.it_t, Vi.it_s, Vi.lentOk, Vi.outs_nil, Vi.outs_fz, Vi.outs_c, List.tail_cons, Vi.killE, Vi.noOwn, Vi.closed, Vi.closeds, Vi.closedD, Vi.closeds_ints, Vi.wipeE, Vi.resE, Vi.bd_nm, Vi.bd_tp, Vi.bdN, Vi.bdT, Vi.bdsN, Vi.bdNil, Vi.bdCons, Vi.Tg.js, Vi.partM, Vi.eq_int, Vi.eq_str, Vi.eq_bool, Vi.eq_ints, rho__law_same, a1, a2]
    have e : (List.range ds.length).filter (fun _ => true) = List.range ds.length := by simp
    rw [e] at c
    have dm := dsOf_mapV (g := fun _ : Nat => PyData.bool true) (l := List.range ds.length)
    have ba := all_true (l := List.range ds.length)
    simp -implicitDefEqProofs [denS__law_same, bod__law_same, b__law_same_0, b__law_same_1, b__law_same_2, b__law_same_3, Vi.bind_ok, Vi.bind_bad, Vi.bind_ex, Vi.so_ok, Vi.sb_nx, Vi.sb_ret, Vi.sb_bad, Vi.d_fz, Vi.d_olI, Vi.d_ol, Vi.o_some, Vi.tst_b, Vi.tst_i, Vi.tst_l, Vi.tst_s, Vi.tst_n, Vi.oB_some, Vi.oP_some, Vi.oL_some, Vi.rdV_fz, Vi.rdV_ol, Vi.rdV2_some, Vi.mvV_ol, Vi.mvV_fz, Vi.rdVar_c, Vi.ev_var, Vi.ev_mv, Vi.ev_int, Vi.ev_bl, Vi.ev_non, Vi.ev_str, Vi.ev_gi, Vi.ev_gs, Vi.ev_bin, Vi.ev_neg, Vi.ev_cmp, Vi.evT_cmp, Vi.ev_chain, Vi.ev_one, Vi.andK_b, Vi.orK_b, Vi.notK_b, Vi.ev_and, Vi.ev_or, Vi.ev_not, Vi.isB_b, Vi.ev_ite, Vi.ev_tup, Vi.ev_lst, Vi.ev_ix, Vi.ev_slc, Vi.evP_no, Vi.evP_yes, Vi.ev_call, Vi.calK_some, Vi.calR_ok, Vi.evA_nil, Vi.evA_e, Vi.evA_o, Vi.args_nil, Vi.args_e, Vi.args_o, Vi.argK_s, Vi.asm_nil, Vi.asm_e, Vi.asm_o, Vi.asmK_s, Vi.lent_ol, Vi.lent_sc, Vi.lent_fz, Vi.put_nil, Vi.put_e, Vi.put_o, Vi.ev_blt, Vi.ev_isi, Vi.ev_lsc, Vi.lscK_s, Vi.cmpK_ok, Vi.ev_lc, Vi.evC_no, Vi.evC_yes, Vi.evI_e, Vi.evI_r1, Vi.evI_r2, Vi.evs_nil, Vi.evs_cons, Vi.evO_nil, Vi.evO_cons, Vi.olO_s, Vi.olOf_c, Vi.appK_s, Vi.appK2_s, Vi.ev_app, Vi.ev_mt, Vi.evT_mt, Vi.appNK_s, Vi.ev_appN, Vi.inOf_c, Vi.inK_s, Vi.inK2_s, Vi.mvixK_s, Vi.ev_mvix, Vi.ev_rev, Vi.ev_repC, Vi.evT_rev, Vi.evI_en, Vi.evI_rv, Vi.evI_rg, Vi.rgK_s, Vi.asgTK_s, Vi.ex_asgT, Vi.bwsK_nx, Vi.bwsK_ret, Vi.ex_bws, Vi.ex_rais, Vi.tryK_nx, Vi.tryK_ret, Vi.ex_try, Vi.so_ex, Vi.sb_ex, Vi.d_ex, Vi.runK_ex, Vi.calR_ex, Vi.keepE, Vi.cloF, Vi.closedR, Vi.bwK_ok, Vi.ev_bw, Vi.bwK'_ok, Vi.evT_bw, Vi.evT_chain, Vi.evT_one, Vi.evT_and, Vi.evT_or, Vi.evT_not, Vi.evT_var, Vi.evT_call, Vi.evT_isi, Vi.evT_blt, Vi.evT_ix, Vi.evT_bin, Vi.evT_bl, Vi.ex_pass, Vi.ex_asg, Vi.ex_expr, Vi.ex_ret, Vi.ex_retN, Vi.ex_if, Vi.ex_for, Vi.setK_s, Vi.setK2_s, Vi.setK3_s, Vi.ex_set, Vi.ex_aug, Vi.ex_augS, Vi.augM, Vi.augSM, Vi.exs_nil, Vi.exs_cons, Vi.run_b, Vi.runK_ret, Vi.runK_nx, Vi.frzE_nil, Vi.frz_cons, Vi.frzK_ol, Vi.frzK2_s, Vi.frzK_fz, Vi.frzK_no, Vi.frzK_olI, Vi.rdV_olI, Vi.mvV_olI, Vi.olO_olI, Vi.lent_olI, Vi.closed_olI, Vi.dOf_fz, Vi.dOf_olI, Vi.dOf_olI', Vi.dsOf_fz, Vi.dsOf_ints, Vi.dsOf_nil, Vi.dsOf_cons, Option.map_some, Vi.binD, Vi.add_int, Vi.sub_int, Vi.cmpD, Vi.lt_int, Vi.le_int, Vi.gt_int, Vi.ge_int, Vi.neg_int, Vi.bf_len_l, Vi.bf_len_t, Vi.bf_len_s, Vi.bf_abs, Vi.bf_int, Vi.bf_intb, Vi.bf_max2, Vi.bf_min2, Vi.bf_list_l, Vi.bf_list_t, Vi.bf_tup_l, Vi.bf_sum, Vi.ix_l, Vi.ix_t, Vi.ix_s, Vi.isiD, Vi.chain2_eq, Vi.chainK_b, Vi.iop_add, Vi.iop_sub, Vi.it_l, Vi.it_t, Vi.it_s, Vi.lentOk, Vi.outs_nil, Vi.outs_fz, Vi.outs_c, List.tail_cons, Vi.killE, Vi.noOwn, Vi.closed, Vi.closeds, Vi.closedD, Vi.closeds_ints, Vi.wipeE, Vi.resE, Vi.bd_nm, Vi.bd_tp, Vi.bdN, Vi.bdT, Vi.bdsN, Vi.bdNil, Vi.bdCons, Vi.Tg.js, Vi.partM, Vi.eq_int, Vi.eq_str, Vi.eq_bool, Vi.eq_ints, rr, c, dm, ba]
end Vi

set_option Elab.async false
set_option linter.all false
set_option maxRecDepth 100000
namespace K56
open PySem Vi L2
/-! ### words that commute, turnings -/
def pow (q : Nat) (u : List Nat) : List Nat := (List.replicate q u).flatten
theorem pow_0 {u : List Nat} : pow 0 u = [] := rfl
theorem pow_succ {q : Nat} {u : List Nat} : pow (q + 1) u = u ++ pow q u := by unfold pow; rw [List.replicate_succ, List.flatten_cons]
theorem pow_add {u : List Nat} : ∀ {a b : Nat}, pow (a + b) u = pow a u ++ pow b u
  | 0, b => by rw [Nat.zero_add, pow_0, List.nil_append]
  | a + 1, b => by rw [show a + 1 + b = (a + b) + 1 by omega, pow_succ, pow_add, pow_succ, List.append_assoc]
theorem pow_1 {u : List Nat} : pow 1 u = u := by rw [pow_succ, pow_0, List.append_nil]
theorem pow_comm {u : List Nat} {a b : Nat} : pow a u ++ pow b u = pow b u ++ pow a u := by rw [← pow_add, ← pow_add, Nat.add_comm]
theorem pow_len {u : List Nat} : ∀ {q : Nat}, (pow q u).length = q * u.length
  | 0 => by rw [pow_0, Nat.zero_mul]; rfl
  | q + 1 => by rw [pow_succ, List.length_append, pow_len, Nat.succ_mul, Nat.add_comm]
theorem pow_pow {u : List Nat} {b : Nat} : ∀ {a : Nat}, pow a (pow b u) = pow (a * b) u
  | 0 => by rw [pow_0, Nat.zero_mul, pow_0]
  | a + 1 => by rw [pow_succ, pow_pow, ← pow_add, Nat.succ_mul, Nat.add_comm]
theorem commute : ∀ (m : Nat) (u v : List Nat), u.length + v.length ≤ m → u ≠ [] → v ≠ [] → u ++ v = v ++ u → ∃ (z : List Nat) (a b : Nat), 1 ≤ a ∧ 1 ≤ b ∧ u = pow a z ∧ v = pow b z
  | 0, u, v, h, hu, _, _ => absurd (List.length_eq_zero_iff.mp (by omega)) hu
  | m + 1, u, v, h, hu, hv, e => by
    have lu : 0 < u.length := List.length_pos_iff.mpr hu
    have lv : 0 < v.length := List.length_pos_iff.mpr hv
    by_cases hl : u.length ≤ v.length
    · obtain ⟨v', rfl⟩ : ∃ v', v = u ++ v' := by
        refine ⟨v.drop u.length, ?_⟩
        have t : v.take u.length = u := by
          have := congrArg (List.take u.length) e
          rw [List.take_left' rfl, List.take_append_of_le_length hl] at this
          exact this.symm
        conv => lhs; rw [← List.take_append_drop u.length v, t]
      rw [List.append_assoc] at e
      have e2 : u ++ v' = v' ++ u := List.append_cancel_left e
      by_cases hv' : v' = []
      · subst hv'
        exact ⟨u, 1, 1, Nat.le_refl _, Nat.le_refl _, pow_1.symm, by rw [List.append_nil, pow_1]⟩
      · rw [List.length_append] at h
        obtain ⟨z, a, b, ha, hb, h1, h2⟩ := commute m u v' (by omega) hu hv' e2
        exact ⟨z, a, a + b, ha, by omega, h1, by rw [pow_add, ← h1, ← h2]⟩
    · obtain ⟨u', rfl⟩ : ∃ u', u = v ++ u' := by
        refine ⟨u.drop v.length, ?_⟩
        have t : u.take v.length = v := by
          have := congrArg (List.take v.length) e
          rw [List.take_left' rfl, List.take_append_of_le_length (by omega)] at this
          exact this
        conv => lhs; rw [← List.take_append_drop v.length u, t]
      rw [List.append_assoc] at e
      have e2 : u' ++ v = v ++ u' := List.append_cancel_left e
      have hu' : u' ≠ [] := by
        intro q
        subst q
        rw [List.append_nil] at hl
        omega
      rw [List.length_append] at h
      obtain ⟨z, a, b, ha, hb, h1, h2⟩ := commute m u' v (by omega) hu' hv e2
      exact ⟨z, b + a, b, by omega, hb, by rw [pow_add, ← h1, ← h2], h2⟩
def rot (k : Nat) (w : List Nat) : List Nat := w.drop k ++ w.take k
theorem rot_len {k : Nat} {w : List Nat} : (rot k w).length = w.length := by unfold rot; rw [List.length_append, List.length_drop, List.length_take]; omega
theorem rot_0 {w : List Nat} : rot 0 w = w := by unfold rot; simp
theorem rot_get {k i : Nat} {w : List Nat} (hk : k ≤ w.length) (hi : i < w.length) : (rot k w)[i]? = w[(i + k) % w.length]? := by
  unfold rot
  by_cases h : i + k < w.length
  · rw [List.getElem?_append_left (by rw [List.length_drop]; omega), List.getElem?_drop, Nat.mod_eq_of_lt h, Nat.add_comm]
  · rw [List.getElem?_append_right (by rw [List.length_drop]; omega), List.length_drop, List.getElem?_take_of_lt (by omega)]
    congr 1
    rw [Nat.mod_eq_sub_mod (by omega), Nat.mod_eq_of_lt (by omega)]
    omega
theorem rot_ext {a b : List Nat} (hl : a.length = b.length) (h : ∀ i, i < a.length → a[i]? = b[i]?) : a = b := by
  apply List.ext_getElem? 
  intro i
  by_cases q : i < a.length
  · exact h i q
  · rw [List.getElem?_eq_none (by omega), List.getElem?_eq_none (by omega)]
theorem rot_rot {j k : Nat} {w : List Nat} (hj : j ≤ w.length) (hk : k ≤ w.length) (h0 : 0 < w.length) : rot k (rot j w) = rot ((j + k) % w.length) w := by
  refine rot_ext (by rw [rot_len, rot_len, rot_len]) fun i hi => ?_
  rw [rot_len, rot_len] at hi
  rw [rot_get (by rw [rot_len]; exact hk) (by rw [rot_len]; exact hi), rot_len, rot_get hj (Nat.mod_lt _ h0), rot_get (Nat.le_of_lt (Nat.mod_lt _ h0)) hi]
  congr 1
  rw [Nat.mod_add_mod, Nat.add_mod_mod]
  congr 1
  omega
theorem rot_comm {j k : Nat} {w : List Nat} (hj : j ≤ w.length) (hk : k ≤ w.length) (h0 : 0 < w.length) : rot k (rot j w) = rot j (rot k w) := by
  rw [rot_rot hj hk h0, rot_rot hk hj h0, Nat.add_comm]
/-- a word that is a shorter one some times -/
def Root (w : List Nat) (s : Nat) : Prop := 1 ≤ s ∧ s < w.length ∧ w.length % s = 0 ∧ pow (w.length / s) (w.take s) = w
theorem root_rot {w : List Nat} {s : Nat} (h : Root w s) : rot s w = w := by
  obtain ⟨h1, h2, h3, h4⟩ := h
  obtain ⟨q, hq⟩ : ∃ q, w.length / s = q + 1 := ⟨w.length / s - 1, by have := Nat.div_pos (Nat.le_of_lt h2) h1; omega⟩
  rw [hq] at h4
  have hl : (w.take s).length = s := by rw [List.length_take]; omega
  generalize w.take s = u at h4 hl
  unfold rot
  rw [← h4, pow_succ, List.drop_left' hl, List.take_left' hl]
  have := pow_comm (u := u) (a := q) (b := 1)
  rw [pow_1] at this
  exact this
theorem rot_root {w : List Nat} {k : Nat} (h1 : 1 ≤ k) (h2 : k < w.length) (h : rot k w = w) : ∃ s, Root w s := by
  have lu : (w.take k).length = k := by rw [List.length_take]; omega
  have lv : (w.drop k).length = w.length - k := List.length_drop
  have e : w.take k ++ w.drop k = w := List.take_append_drop k w
  obtain ⟨z, a, b, ha, hb, hu, hv⟩ := commute _ (w.take k) (w.drop k) (Nat.le_refl _) (by intro q; rw [q] at lu; simp at lu; omega) (by intro q; rw [q] at lv; simp at lv; omega) (by rw [e]; exact h.symm)
  have hw : w = pow (a + b) z := by rw [pow_add, ← hu, ← hv, e]
  have hl : w.length = (a + b) * z.length := by rw [← pow_len, ← hw]
  have hz : 0 < z.length := by
    rcases Nat.eq_zero_or_pos z.length with q | q
    · rw [q, Nat.mul_zero] at hl; omega
    · exact q
  have hz2 : z.length < w.length := by
    rw [hl]
    have : 2 * z.length ≤ (a + b) * z.length := Nat.mul_le_mul_right _ (by omega)
    omega
  refine ⟨z.length, hz, hz2, by rw [hl, Nat.mul_mod_left], ?_⟩
  have t : w.take z.length = z := by
    obtain ⟨q, hq⟩ : ∃ q, a + b = q + 1 := ⟨a + b - 1, by omega⟩
    rw [hw, hq, pow_succ, List.take_left' rfl]
  rw [t, hl, Nat.mul_div_cancel _ hz, ← hw]
/-- less than all other turnings -/
def Least (w : List Nat) : Prop := ∀ k, 1 ≤ k → k < w.length → w < rot k w
theorem least_iff {w : List Nat} : Least w ↔ (∀ s, ¬ Root w s) ∧ ∀ k, k < w.length → w ≤ rot k w := by
  constructor
  · intro h
    refine ⟨fun s hs => ?_, fun k hk => ?_⟩
    · have := h s hs.1 hs.2.1
      rw [root_rot hs] at this
      exact List.lt_irrefl _ this
    · by_cases q : k = 0
      · subst q; rw [rot_0]; exact List.le_refl _
      · exact List.le_of_lt (h k (by omega) hk)
  · intro ⟨h1, h2⟩ k k1 k2
    have := h2 k k2
    refine List.not_le.mp fun q => ?_
    obtain ⟨s, hs⟩ := rot_root k1 k2 (List.le_antisymm q this)
    exact h1 s hs
/-- the least turning of a plain word is less than its other ones -/
theorem least_min {u m : List Nat} (hp : ∀ s, ¬ Root u s) {j : Nat} (hj : j < u.length) (hm : m = rot j u) (hle : ∀ k, k < u.length → m ≤ rot k u) : Least m := by
  have h0 : 0 < u.length := by omega
  intro k k1 k2
  have lm : m.length = u.length := by rw [hm, rot_len]
  rw [lm] at k2
  refine List.not_le.mp fun q => ?_
  have g : rot k m = rot ((j + k) % u.length) u := by rw [hm, rot_rot (by omega) (by omega) h0]
  have g2 := hle ((j + k) % u.length) (Nat.mod_lt _ h0)
  rw [← g] at g2
  have eq : rot k m = m := List.le_antisymm q g2
  have back : rot (u.length - j) m = u := by
    rw [hm, rot_rot (by omega) (by omega) h0, show j + (u.length - j) = u.length by omega, Nat.mod_self, rot_0]
  have fix : rot k u = u := by
    conv => lhs; rw [← back]
    rw [rot_comm (by omega) (by omega) (by omega), eq, back]
  obtain ⟨s, hs⟩ := rot_root k1 k2 fix
  exact hp s hs
/-- the first root of a text has none -/
theorem root_first {t : List Nat} {s : Nat} (h1 : 1 ≤ s) (h2 : s ≤ t.length) (h3 : t.length % s = 0) (h4 : pow (t.length / s) (t.take s) = t) (hf : ∀ r, 1 ≤ r → r < s → ¬ (t.length % r = 0 ∧ pow (t.length / r) (t.take r) = t)) : ∀ r, ¬ Root (t.take s) r := by
  intro r ⟨r1, r2, r3, r4⟩
  have hl : (t.take s).length = s := by rw [List.length_take]; omega
  rw [hl] at r2 r3 r4
  refine hf r r1 r2 ?_
  have d : r ∣ t.length := Nat.dvd_trans (Nat.dvd_of_mod_eq_zero r3) (Nat.dvd_of_mod_eq_zero h3)
  refine ⟨Nat.mod_eq_zero_of_dvd d, ?_⟩
  rw [List.take_take, Nat.min_eq_left (by omega)] at r4
  obtain ⟨x, hx⟩ := Nat.dvd_of_mod_eq_zero r3
  obtain ⟨y, hy⟩ := Nat.dvd_of_mod_eq_zero h3
  rw [← r4, pow_pow] at h4
  have q1 : s / r = x := by rw [hx, Nat.mul_div_cancel_left _ r1]
  have q2 : t.length / s = y := by rw [hy, Nat.mul_div_cancel_left _ h1]
  have q3 : t.length / r = y * x := by rw [hy, hx, Nat.mul_assoc, Nat.mul_div_cancel_left _ r1, Nat.mul_comm]
  rw [q3, ← q1, ← q2]
  exact h4
end K56

set_option Elab.async false
set_option linter.all false
set_option maxRecDepth 100000
set_option maxHeartbeats 4000000
/-! V17: what the laws share: texts, ranges, loops, the law's own _law_text -/
namespace Vi
open PySem L2
open K56 (pow)
abbrev TL (ws : List (List Nat)) : PyData := .list (ws.map tx)
theorem dsOf_map {α : Type} {g : α → PyData} {l : List α} : dsOf (l.map fun x => OV.fz (g x)) = some (l.map g) := by
  have := dsOf_fz (l.map g)
  simpa [Function.comp_def] using this
theorem dsOf_comp {α : Type} {g : α → PyData} {l : List α} : dsOf (l.map (OV.fz ∘ g)) = some (l.map g) := dsOf_map
theorem lt_tx {a b : List Nat} : ltD (tx a) (tx b) = some (decide (a < b)) := rfl
theorem le_tx {a b : List Nat} : leD (tx a) (tx b) = some (!decide (b < a)) := rfl
theorem slc_t {l : List Nat} {m : Nat} : slcD (tx l) none (some (m : Int)) = some (.fz (tx (l.take m))) := by
  show some (OV.fz (.str ⟨(cutL l none (some (m : Int))).toArray⟩)) = _
  have e : cutL l none (some (m : Int)) = l.take m := by
    unfold cutL
    rw [HT.sIx_none, HT.sIx_nat, List.drop_zero, Nat.sub_zero]
    by_cases h : m ≤ l.length
    · rw [Nat.min_eq_left h]
    · rw [Nat.min_eq_right (by omega), List.take_length, List.take_of_length_le (by omega)]
  rw [e]
theorem slc_d {l : List Nat} {m : Nat} : slcD (tx l) (some (m : Int)) none = some (.fz (tx (l.drop m))) := by
  show some (OV.fz (.str ⟨(cutL l (some (m : Int)) none).toArray⟩)) = _
  have e : cutL l (some (m : Int)) none = l.drop m := by
    unfold cutL
    rw [HT.sIx_none, HT.sIx_nat]
    by_cases h : m ≤ l.length
    · rw [Nat.min_eq_left h, List.take_of_length_le (by rw [List.length_drop]; omega)]
    · rw [Nat.min_eq_right (by omega), List.drop_of_length_le (Nat.le_refl _), List.drop_of_length_le (by omega)]; simp
  rw [e]
theorem slc_dt {l : List Nat} {m n : Nat} : slcD (tx l) (some (m : Int)) (some (n : Int)) = some (.fz (tx ((l.drop m).take (n - m)))) := by
  show some (OV.fz (.str ⟨(cutL l (some (m : Int)) (some (n : Int))).toArray⟩)) = _
  have e : cutL l (some (m : Int)) (some (n : Int)) = (l.drop m).take (n - m) := by
    unfold cutL
    rw [HT.sIx_nat, HT.sIx_nat]
    by_cases h : m ≤ l.length
    · rw [Nat.min_eq_left h]
      by_cases h2 : n ≤ l.length
      · rw [Nat.min_eq_left h2]
      · rw [Nat.min_eq_right (by omega), List.take_of_length_le (by rw [List.length_drop]; omega), List.take_of_length_le (by rw [List.length_drop]; omega)]
    · rw [Nat.min_eq_right (show l.length ≤ m by omega), List.drop_of_length_le (Nat.le_refl _), List.drop_of_length_le (by omega)]; simp
  rw [e]
theorem rng_nat {n : Nat} (h : n ≤ 16777216) : rngD [.int (n : Int)] = some ((List.range n).map fun i => .int (i : Nat)) := by
  rw [rng_1 (by omega) (by omega)]
  unfold rngL
  simp
/-- the numbers from m on, below n -/
def upF (m n : Nat) : List Nat := (List.range (n - m)).map (m + ·)
theorem mem_upF {m n k : Nat} : k ∈ upF m n ↔ m ≤ k ∧ k < n := by
  unfold upF
  rw [List.mem_map]
  constructor
  · rintro ⟨i, hi, rfl⟩
    rw [List.mem_range] at hi
    omega
  · intro ⟨h1, h2⟩
    exact ⟨k - m, List.mem_range.mpr (by omega), by omega⟩
theorem rng_upF {m n : Nat} (h : n ≤ 16777216) (hm : m ≤ 16777216) : rngD [.int (m : Nat), .int (n : Int)] = some ((upF m n).map fun i => .int (i : Nat)) := by
  rw [rng_2 (by omega) (by omega) (by omega)]
  unfold rngL upF
  have e : ((n : Int) - (m : Int)).toNat = n - m := by omega
  rw [e, List.map_map]
  congr 1
/-- the sign at a place -/
def sg (w : List Nat) (i : Nat) : Nat := w.getD i 0
theorem sg_at {w : List Nat} {i : Nat} (h : i < w.length) : ixD (tx w) (.int (i : Nat)) = some (tx [sg w i]) := by
  rw [ix_s, Vi.atI_nat]
  simp [sg, h]
theorem bols_ok : ∀ l : List Bool, bolsOf (l.map .bool) = some l
  | [] => rfl
  | i :: l => by simp [bolsOf, bols_ok l]
theorem bf_all {α : Type} {p : α → Bool} {l : List α} : bfD .all [.list (l.map fun x => .bool (p x))] = some (.fz (.bool (l.all p))) := by
  have e : (l.map fun x => PyData.bool (p x)) = (l.map p).map .bool := by simp
  rw [e]
  show (bolsOf ((l.map p).map .bool)).map _ = _
  rw [bols_ok]; simp
/-- a while loop with a measure -/
theorem whl_inv {tc : M Bool} {mb : MS} (I : Nat → Env → Prop) (Fin : Env → Prop)
    (hs : ∀ m e, I m e → (∃ e1, tc e = .ok false e1 ∧ Fin e1) ∨ ∃ e1 e2 m', tc e = .ok true e1 ∧ mb e1 = .nx e2 ∧ m' < m ∧ I m' e2) : ∀ (n m : Nat) (e : Env), m < n → I m e → ∃ e', whileL tc mb n e = .nx e' ∧ Fin e'
  | 0, _, _, h, _ => absurd h (Nat.not_lt_zero _)
  | n + 1, m, e, h, hi => by
    rcases hs m e hi with ⟨e1, h1, h2⟩ | ⟨e1, e2, m', h1, h2, h3, h4⟩
    · refine ⟨e1, ?_, h2⟩
      unfold whileL
      rw [h1]; rfl
    · obtain ⟨e', g1, g2⟩ := whl_inv I Fin hs n m' e2 (by omega) h4
      refine ⟨e', ?_, g2⟩
      unfold whileL
      rw [h1, so_ok, if_pos rfl, h2, sb_nx]
      exact g1
theorem feed_lent {o : OV} (h : IsFeed o) : lent o = true := by
  obtain ⟨ns, i, b, s, rfl, _⟩ := h; rfl
theorem flat_one : ∀ w : List Nat, (w.map fun c => [c]).flatten = w
  | [] => rfl
  | c :: w => by rw [List.map_cons, List.flatten_cons, flat_one w]; rfl
theorem join_one {w : List Nat} (h : w.length ≤ 16777216) : mfD .join ("" : Str) (.list (w.map fun c => tx [c])) = some (tx w) := by
  rw [lit_0]
  have := join_tx (ws := w.map fun c => [c]) (by rw [flat_one]; exact h)
  rw [flat_one, List.map_map] at this
  exact this
theorem draw_text {n : Nat} {E : OV → Env} {vs : List Nat} {bd : PyData → Env → Option Env} {me : M OV} {tc : M Bool}
    (hs : ∀ o x, IsFeed o → ∃ (r : Int) (o' : OV) (e1 e2 e3 : Env), 0 ≤ r ∧ r < n ∧ IsFeed o' ∧ bd (.int x) (E o) = some e1 ∧ tc e1 = .ok true e2 ∧ me e2 = .ok (.fz (tx [(97 + r.toNat)])) e3 ∧ wipeE e3 vs = E o') {o : OV} (ho : IsFeed o) (l : List Int) :
    ∃ (w : List Nat) (o' : OV), IsFeed o' ∧ w.length = l.length ∧ (∀ c ∈ w, 97 ≤ c ∧ c < 97 + n) ∧ compL bd tc me vs (l.map .int) (E o) = .ok (w.map fun c => .fz (tx [c])) (E o') := by
  obtain ⟨ys, env, h1, w, o', ho', h2, h3, h4, h5⟩ := compL_inv (bd := bd) (tc := tc) (me := me) (vs := vs) (g := PyData.int) (fun d acc env => ∃ (w : List Nat) (o' : OV), IsFeed o' ∧ w.length = d.length ∧ (∀ c ∈ w, 97 ≤ c ∧ c < 97 + n) ∧ acc = w.map (fun c => OV.fz (tx [c])) ∧ env = E o') l [] [] (E o) ⟨[], o, ho, rfl, by simp, rfl, rfl⟩
    (by
      rintro d a x r env _ ⟨w, o', ho', q1, q2, rfl, rfl⟩
      obtain ⟨v, o2, e1, e2, e3, v0, v1, ho2, b1, b2, b3, b4⟩ := hs o' x ho'
      refine ⟨e1, e2, true, b1, b2, ?_⟩
      rw [if_pos rfl]
      refine ⟨_, e3, b3, w ++ [97 + v.toNat], o2, ho2, by simp [q1], ?_, by simp, b4⟩
      intro c hc
      rcases List.mem_append.mp hc with hc | hc
      · exact q2 c hc
      · rw [List.mem_singleton] at hc
        subst hc
        omega)
  subst h5
  rw [List.nil_append] at h4 h2
  subst h4
  exact ⟨w, o', ho', h2, h3, h1⟩
theorem az_ixI {m : Nat} {r : Int} (h0 : 0 ≤ r) (h : r < m) : ixD (tx (az m)) (.int r) = some (tx [97 + r.toNat]) := by
  have := ix_az (n := m) (j := r.toNat) (by omega)
  rw [Int.toNat_of_nonneg h0] at this
  exact this
theorem dep_txs : ∀ l : List (List Nat), PyData.depthAll (l.map tx) ≤ 1
  | [] => by simp [PyData.depthAll]
  | x :: l => by
    have := dep_txs l
    simp only [List.map_cons, PyData.depthAll, PyData.depth]
    omega
theorem eqv_txs : ∀ a b : List (List Nat), PyData.eqvAll (a.map tx) (b.map tx) = decide (a = b)
  | [], [] => by simp [PyData.eqvAll]
  | [], _ :: _ => by simp [PyData.eqvAll]
  | _ :: _, [] => by simp [PyData.eqvAll]
  | x :: a, y :: b => by
    simp only [List.map_cons, PyData.eqvAll, eqv_txs a b, PyData.eqv]
    rw [beq_tx]
    by_cases h : x = y <;> by_cases h2 : a = b <;> simp [h, h2]
theorem eq_txs {a b : List (List Nat)} : eqD (TL a) (TL b) = some (decide (a = b)) := by
  show (if depG (TL a) (TL b) = true then some (PyData.eqv (TL a) (TL b)) else none) = _
  rw [if_pos (by unfold depG; have := dep_txs a; simp only [PyData.depth]; apply decide_eq_true; omega)]
  unfold PyData.eqv
  rw [eqv_txs]
theorem mul_pow {a : List Nat} {k : Nat} (h : k * a.length ≤ sizeLine) (h2 : k < 2 ^ 60) : mulD (tx a) (.int (k : Nat)) = some (.fz (tx (pow k a))) := by
  have e : (tS a).length = a.length := tS_len
  simp only [mulD, e, Int.toNat_natCast]
  rw [if_pos ⟨by omega, by omega, by rw [Nat.mul_comm]; exact h⟩]; rfl
theorem pow_mem {w : List Nat} : ∀ {k : Nat} {x : Nat}, x ∈ pow k w → x ∈ w
  | 0, x, h => by cases h
  | k + 1, x, h => by
    rw [K56.pow_succ] at h
    rcases List.mem_append.mp h with h | h
    · exact h
    · exact pow_mem h
def tab__law_text : Tab := ⟨["feed", "most", "size", "letters", "text", "k"], [("_law_draw", 2)], ["len", "range"], [], [], [], []⟩
def b__law_text_0 : Sts := (.cons (.ret (.var 4)) .nil)
def b__law_text_1 : Sts := (.cons (.iff (.and (.cmp .Gt (.var 2) (.int 1)) (.one (.cmp .Eq (.call 0 (.o 0 (.e (.int 2) .nil))) (.int 0)))) (.cons (.asg 4 (.slc (.bin .Mult (.slc (.var 4) .no (.yes (.bin .Add (.int 1) (.call 0 (.o 0 (.e (.var 2) .nil)))))) (.var 2)) .no (.yes (.var 2)))) .nil) .nil) b__law_text_0)
def b__law_text_2 : Sts := (.cons (.asg 4 (.mt .join (.str "") (.lc (.ix (.var 3) (.call 0 (.o 0 (.e (.blt .len (.cons (.var 3) .nil)) .nil)))) (.nm 5) (.r1 (.var 2)) .no [5]))) b__law_text_1)
def b__law_text_3 : Sts := (.cons (.asg 3 (.ix (.lst (.cons (.str "ab") (.cons (.str "abc") (.cons (.str "abcdefgh") (.cons (.str "a") .nil))))) (.ix (.lst (.cons (.int 0) (.cons (.int 0) (.cons (.int 1) (.cons (.int 1) (.cons (.int 2) (.cons (.int 3) .nil))))))) (.call 0 (.o 0 (.e (.int 6) .nil)))))) b__law_text_2)
def b__law_text_4 : Sts := (.cons (.iff (.cmp .Eq (.call 0 (.o 0 (.e (.int 8) .nil))) (.int 0)) (.cons (.asg 2 (.call 0 (.o 0 (.e (.bin .Add (.var 1) (.int 1)) .nil)))) .nil) .nil) b__law_text_3)
def b__law_text_5 : Sts := (.cons (.asg 2 (.call 0 (.o 0 (.e (.int 15) .nil)))) b__law_text_4)
def bod__law_text : Sts := b__law_text_5
def rho__law_text : Rho := fun f => match f with
  | 0 => den__law_draw
  | _ => fun _ => .bad
def den__law_text : Den := runB 2 6 [0] (exs rho__law_text [0] bod__law_text)
theorem lets_ok {r : Int} (h0 : 0 ≤ r) (h : r < 6) : ∃ (v : Int) (m : Nat), 1 ≤ m ∧ m ≤ 8 ∧ atI [PyData.int 0, .int 0, .int 1, .int 1, .int 2, .int 3] r = some (.int v) ∧ atI [PyData.str ("ab" : Str), .str ("abc" : Str), .str ("abcdefgh" : Str), .str ("a" : Str)] v = some (tx (az m)) := by
  have l1 : ("ab" : Str) = tS (az 2) := by decide
  have l2 : ("abc" : Str) = tS (az 3) := by decide
  have l3 : ("a" : Str) = tS (az 1) := by decide
  rw [l1, l2, l3, lit_az]
  have : r = 0 ∨ r = 1 ∨ r = 2 ∨ r = 3 ∨ r = 4 ∨ r = 5 := by omega
  rcases this with rfl | rfl | rfl | rfl | rfl | rfl
  · exact ⟨0, 2, by decide, by decide, rfl, rfl⟩
  · exact ⟨0, 2, by decide, by decide, rfl, rfl⟩
  · exact ⟨1, 3, by decide, by decide, rfl, rfl⟩
  · exact ⟨1, 3, by decide, by decide, rfl, rfl⟩
  · exact ⟨2, 8, by decide, by decide, rfl, rfl⟩
  · exact ⟨3, 1, by decide, by decide, rfl, rfl⟩
theorem text2_ok {o : OV} (ho : IsFeed o) {a1 : Option OV} {size : Int} (h0 : 0 ≤ size) (h1 : size ≤ 1000) : ∃ (w : List Nat) (o' : OV) (E : Env), IsFeed o' ∧ (w.length : Int) = size ∧ (∀ c ∈ w, 97 ≤ c ∧ c < 105) ∧ exs rho__law_text [0] b__law_text_3 [some o, a1, some (.fz (.int size)), none, none, none] = .ret (.fz (tx w)) (some o' :: E) := by
  obtain ⟨r1, o1, d1, l1, u1, f1⟩ := draw_ok ho (many := 6) (by decide) (by decide)
  obtain ⟨v, m, m1, m8, ia, ib⟩ := lets_ok l1 u1
  have e1 := feed_lent ho
  have rr : rngD [.int size] = some ((rgI 0 size).map .int) := by rw [← rngL_eq]; exact rng_1 (by omega) (by omega)
  have al : (tS (az m)).length = m := by rw [tS_len, az_len]
  have sz6 : 6 ≤ sizeLine := by decide
  have sz4 : 4 ≤ sizeLine := by decide
  obtain ⟨w, o3, f3, w1, w2, c⟩ := draw_text (n := m) (E := fun o => [some o, a1, some (.fz (.int size)), some (.fz (tx (az m))), none, none]) (vs := [5]) (bd := bdG (.nm 5)) (me := ev rho__law_text (.ix (.var 3) (.call 0 (.o 0 (.e (.blt .len (.cons (.var 3) .nil)) .nil))))) (tc := evC rho__law_text .no)
    (by
      intro o x ho
      obtain ⟨r, o', d, l, u, f⟩ := draw_ok ho (many := m) (by omega) (by omega)
      have e1 := feed_lent ho
      have a3 := az_ixI (m := m) l u
      generalize az m = AZ at a3 al
      refine ⟨r, o', [some o, a1, some (.fz (.int size)), some (.fz (tx AZ)), none, some (.fz (.int x))], [some o, a1, some (.fz (.int size)), some (.fz (tx AZ)), none, some (.fz (.int x))], [some o', a1, some (.fz (.int size)), some (.fz (tx AZ)), none, some (.fz (.int x))], l, u, f, ?_, ?_, ?_, ?_⟩
      · simp -implicitDefEqProofs [Vi.bind_ok, Vi.bind_bad, Vi.bind_ex, Vi.so_ok, Vi.sb_nx, Vi.sb_ret, Vi.sb_bad, Vi.d_fz, Vi.d_olI, Vi.d_ol, Vi.o_some, Vi.tst_b, Vi.tst_i, Vi.tst_l, Vi.tst_s, Vi.tst_n, Vi.oB_some, Vi.oP_some, Vi.oL_some, Vi.rdV_fz, Vi.rdV_ol, Vi.rdV2_some, Vi.mvV_ol, Vi.mvV_fz, Vi.rdVar_c, Vi.ev_var, Vi.ev_mv, Vi.ev_int, Vi.ev_bl, Vi.ev_non, Vi.ev_str, Vi.ev_gi, Vi.ev_gs, Vi.ev_bin, Vi.ev_neg, Vi.ev_cmp, Vi.evT_cmp, Vi.ev_chain, Vi.ev_one, Vi.andK_b, Vi.orK_b, Vi.notK_b, Vi.ev_and, Vi.ev_or, Vi.ev_not, Vi.isB_b, Vi.ev_ite, Vi.ev_tup, Vi.ev_lst, Vi.ev_ix, Vi.ev_slc, Vi.evP_no, Vi.evP_yes, Vi.ev_call, Vi.calK_some, Vi.calR_ok, Vi.evA_nil, Vi.evA_e, Vi.evA_o, Vi.args_nil, Vi.args_e, Vi.args_o, Vi.argK_s, Vi.asm_nil, Vi.asm_e, Vi.asm_o, Vi.asmK_s, Vi.lent_ol, Vi.lent_sc, Vi.lent_fz, Vi.put_nil, Vi.put_e, Vi.put_o, Vi.ev_blt, Vi.ev_isi, Vi.ev_lsc, Vi.lscK_s, Vi.cmpK_ok, Vi.ev_lc, Vi.evC_no, Vi.evC_yes, Vi.evI_e, Vi.evI_r1, Vi.evI_r2, Vi.evs_nil, Vi.evs_cons, Vi.evO_nil, Vi.evO_cons, Vi.olO_s, Vi.olOf_c, Vi.appK_s, Vi.appK2_s, Vi.ev_app, Vi.ev_mt, Vi.evT_mt, Vi.appNK_s, Vi.ev_appN, Vi.inOf_c, Vi.inK_s, Vi.inK2_s, Vi.mvixK_s, Vi.ev_mvix, Vi.ev_rev, Vi.ev_repC, Vi.evT_rev, Vi.evI_en, Vi.evI_rv, Vi.evI_rg, Vi.rgK_s, Vi.asgTK_s, Vi.ex_asgT, Vi.bwsK_nx, Vi.bwsK_ret, Vi.ex_bws, Vi.ex_rais, Vi.tryK_nx, Vi.tryK_ret, Vi.ex_try, Vi.so_ex, Vi.sb_ex, Vi.d_ex, Vi.runK_ex, Vi.calR_ex, Vi.keepE, Vi.cloF, Vi.closedR, Vi.bwK_ok, Vi.ev_bw, Vi.bwK'_ok, Vi.evT_bw, Vi.evT_chain, Vi.evT_one, Vi.evT_and, Vi.evT_or, Vi.evT_not, Vi.evT_var, Vi.evT_call, Vi.evT_isi, Vi.evT_blt, Vi.evT_ix, Vi.evT_bin, Vi.evT_bl, Vi.ex_pass, Vi.ex_asg, Vi.ex_expr, Vi.ex_ret, Vi.ex_retN, Vi.ex_if, Vi.ex_for, Vi.setK_s, Vi.setK2_s, Vi.setK3_s, Vi.ex_set, Vi.ex_aug, Vi.ex_augS, Vi.augM, Vi.augSM, Vi.exs_nil, Vi.exs_cons, Vi.run_b, Vi.runK_ret, Vi.runK_nx, Vi.frzE_nil, Vi.frz_cons, Vi.frzK_ol, Vi.frzK2_s, Vi.frzK_fz, Vi.frzK_no, Vi.frzK_olI, Vi.rdV_olI, Vi.mvV_olI, Vi.olO_olI, Vi.lent_olI, Vi.closed_olI, Vi.dOf_fz, Vi.dOf_olI, Vi.dOf_olI', Vi.dsOf_fz, Vi.dsOf_ints, Vi.dsOf_nil, Vi.dsOf_cons, Option.map_some, Vi.binD, Vi.add_int, Vi.sub_int, Vi.cmpD, Vi.lt_int, Vi.le_int, Vi.gt_int, Vi.ge_int, Vi.neg_int, Vi.bf_len_l, Vi.bf_len_t, Vi.bf_len_s, Vi.bf_abs, Vi.bf_int, Vi.bf_intb, Vi.bf_max2, Vi.bf_min2, Vi.bf_list_l, Vi.bf_list_t, Vi.bf_tup_l, Vi.bf_sum, Vi.ix_l, Vi.ix_t, Vi.isiD, Vi.chain2_eq, Vi.chainK_b, Vi.iop_add, Vi.iop_sub, Vi.it_l, Vi.it_t, Vi.lentOk, Vi.outs_nil, Vi.outs_fz, Vi.outs_c, List.tail_cons, Vi.killE, Vi.noOwn, Vi.closed, Vi.closeds, Vi.closedD, Vi.closeds_ints, Vi.wipeE, Vi.resE, Vi.bd_nm, Vi.bd_tp, Vi.bdN, Vi.bdT, Vi.bdsN, Vi.bdNil, Vi.bdCons, Vi.Tg.js, Vi.partM, Vi.eq_int, Vi.eq_str, Vi.eq_bool, Vi.eq_ints]
      · simp -implicitDefEqProofs [Vi.bind_ok, Vi.bind_bad, Vi.bind_ex, Vi.so_ok, Vi.sb_nx, Vi.sb_ret, Vi.sb_bad, Vi.d_fz, Vi.d_olI, Vi.d_ol, Vi.o_some, Vi.tst_b, Vi.tst_i, Vi.tst_l, Vi.tst_s, Vi.tst_n, Vi.oB_some, Vi.oP_some, Vi.oL_some, Vi.rdV_fz, Vi.rdV_ol, Vi.rdV2_some, Vi.mvV_ol, Vi.mvV_fz, Vi.rdVar_c, Vi.ev_var, Vi.ev_mv, Vi.ev_int, Vi.ev_bl, Vi.ev_non, Vi.ev_str, Vi.ev_gi, Vi.ev_gs, Vi.ev_bin, Vi.ev_neg, Vi.ev_cmp, Vi.evT_cmp, Vi.ev_chain, Vi.ev_one, Vi.andK_b, Vi.orK_b, Vi.notK_b, Vi.ev_and, Vi.ev_or, Vi.ev_not, Vi.isB_b, Vi.ev_ite, Vi.ev_tup, Vi.ev_lst, Vi.ev_ix, Vi.ev_slc, Vi.evP_no, Vi.evP_yes, Vi.ev_call, Vi.calK_some, Vi.calR_ok, Vi.evA_nil, Vi.evA_e, Vi.evA_o, Vi.args_nil, Vi.args_e, Vi.args_o, Vi.argK_s, Vi.asm_nil, Vi.asm_e, Vi.asm_o, Vi.asmK_s, Vi.lent_ol, Vi.lent_sc, Vi.lent_fz, Vi.put_nil, Vi.put_e, Vi.put_o, Vi.ev_blt, Vi.ev_isi, Vi.ev_lsc, Vi.lscK_s, Vi.cmpK_ok, Vi.ev_lc, Vi.evC_no, Vi.evC_yes, Vi.evI_e, Vi.evI_r1, Vi.evI_r2, Vi.evs_nil, Vi.evs_cons, Vi.evO_nil, Vi.evO_cons, Vi.olO_s, Vi.olOf_c, Vi.appK_s, Vi.appK2_s, Vi.ev_app, Vi.ev_mt, Vi.evT_mt, Vi.appNK_s, Vi.ev_appN, Vi.inOf_c, Vi.inK_s, Vi.inK2_s, Vi.mvixK_s, Vi.ev_mvix, Vi.ev_rev, Vi.ev_repC, Vi.evT_rev, Vi.evI_en, Vi.evI_rv, Vi.evI_rg, Vi.rgK_s, Vi.asgTK_s, Vi.ex_asgT, Vi.bwsK_nx, Vi.bwsK_ret, Vi.ex_bws, Vi.ex_rais, Vi.tryK_nx, Vi.tryK_ret, Vi.ex_try, Vi.so_ex, Vi.sb_ex, Vi.d_ex, Vi.runK_ex, Vi.calR_ex, Vi.keepE, Vi.cloF, Vi.closedR, Vi.bwK_ok, Vi.ev_bw, Vi.bwK'_ok, Vi.evT_bw, Vi.evT_chain, Vi.evT_one, Vi.evT_and, Vi.evT_or, Vi.evT_not, Vi.evT_var, Vi.evT_call, Vi.evT_isi, Vi.evT_blt, Vi.evT_ix, Vi.evT_bin, Vi.evT_bl, Vi.ex_pass, Vi.ex_asg, Vi.ex_expr, Vi.ex_ret, Vi.ex_retN, Vi.ex_if, Vi.ex_for, Vi.setK_s, Vi.setK2_s, Vi.setK3_s, Vi.ex_set, Vi.ex_aug, Vi.ex_augS, Vi.augM, Vi.augSM, Vi.exs_nil, Vi.exs_cons, Vi.run_b, Vi.runK_ret, Vi.runK_nx, Vi.frzE_nil, Vi.frz_cons, Vi.frzK_ol, Vi.frzK2_s, Vi.frzK_fz, Vi.frzK_no, Vi.frzK_olI, Vi.rdV_olI, Vi.mvV_olI, Vi.olO_olI, Vi.lent_olI, Vi.closed_olI, Vi.dOf_fz, Vi.dOf_olI, Vi.dOf_olI', Vi.dsOf_fz, Vi.dsOf_ints, Vi.dsOf_nil, Vi.dsOf_cons, Option.map_some, Vi.binD, Vi.add_int, Vi.sub_int, Vi.cmpD, Vi.lt_int, Vi.le_int, Vi.gt_int, Vi.ge_int, Vi.neg_int, Vi.bf_len_l, Vi.bf_len_t, Vi.bf_len_s, Vi.bf_abs, Vi.bf_int, Vi.bf_intb, Vi.bf_max2, Vi.bf_min2, Vi.bf_list_l, Vi.bf_list_t, Vi.bf_tup_l, Vi.bf_sum, Vi.ix_l, Vi.ix_t, Vi.isiD, Vi.chain2_eq, Vi.chainK_b, Vi.iop_add, Vi.iop_sub, Vi.it_l, Vi.it_t, Vi.lentOk, Vi.outs_nil, Vi.outs_fz, Vi.outs_c, List.tail_cons, Vi.killE, Vi.noOwn, Vi.closed, Vi.closeds, Vi.closedD, Vi.closeds_ints, Vi.wipeE, Vi.resE, Vi.bd_nm, Vi.bd_tp, Vi.bdN, Vi.bdT, Vi.bdsN, Vi.bdNil, Vi.bdCons, Vi.Tg.js, Vi.partM, Vi.eq_int, Vi.eq_str, Vi.eq_bool, Vi.eq_ints]
      · simp -implicitDefEqProofs [Vi.bind_ok, Vi.bind_bad, Vi.bind_ex, Vi.so_ok, Vi.sb_nx, Vi.sb_ret, Vi.sb_bad, Vi.d_fz, Vi.d_olI, Vi.d_ol, Vi.o_some, Vi.tst_b, Vi.tst_i, Vi.tst_l, Vi.tst_s, Vi.tst_n, Vi.oB_some, Vi.oP_some, Vi.oL_some, Vi.rdV_fz, Vi.rdV_ol, Vi.rdV2_some, Vi.mvV_ol, Vi.mvV_fz, Vi.rdVar_c, Vi.ev_var, Vi.ev_mv, Vi.ev_int, Vi.ev_bl, Vi.ev_non, Vi.ev_str, Vi.ev_gi, Vi.ev_gs, Vi.ev_bin, Vi.ev_neg, Vi.ev_cmp, Vi.evT_cmp, Vi.ev_chain, Vi.ev_one, Vi.andK_b, Vi.orK_b, Vi.notK_b, Vi.ev_and, Vi.ev_or, Vi.ev_not, Vi.isB_b, Vi.ev_ite, Vi.ev_tup, Vi.ev_lst, Vi.ev_ix, Vi.ev_slc, Vi.evP_no, Vi.evP_yes, Vi.ev_call, Vi.calK_some, Vi.calR_ok, Vi.evA_nil, Vi.evA_e, Vi.evA_o, Vi.args_nil, Vi.args_e, Vi.args_o, Vi.argK_s, Vi.asm_nil, Vi.asm_e, Vi.asm_o, Vi.asmK_s, Vi.lent_ol, Vi.lent_sc, Vi.lent_fz, Vi.put_nil, Vi.put_e, Vi.put_o, Vi.ev_blt, Vi.ev_isi, Vi.ev_lsc, Vi.lscK_s, Vi.cmpK_ok, Vi.ev_lc, Vi.evC_no, Vi.evC_yes, Vi.evI_e, Vi.evI_r1, Vi.evI_r2, Vi.evs_nil, Vi.evs_cons, Vi.evO_nil, Vi.evO_cons, Vi.olO_s, Vi.olOf_c, Vi.appK_s, Vi.appK2_s, Vi.ev_app, Vi.ev_mt, Vi.evT_mt, Vi.appNK_s, Vi.ev_appN, Vi.inOf_c, Vi.inK_s, Vi.inK2_s, Vi.mvixK_s, Vi.ev_mvix, Vi.ev_rev, Vi.ev_repC, Vi.evT_rev, Vi.evI_en, Vi.evI_rv, Vi.evI_rg, Vi.rgK_s, Vi.asgTK_s, Vi.ex_asgT, Vi.bwsK_nx, Vi.bwsK_ret, Vi.ex_bws, Vi.ex_rais, Vi.tryK_nx, Vi.tryK_ret, Vi.ex_try, Vi.so_ex, Vi.sb_ex, Vi.d_ex, Vi.runK_ex, Vi.calR_ex, Vi.keepE, Vi.cloF, Vi.closedR, Vi.bwK_ok, Vi.ev_bw, Vi.bwK'_ok, Vi.evT_bw, Vi.evT_chain, Vi.evT_one, Vi.evT_and, Vi.evT_or, Vi.evT_not, Vi.evT_var, Vi.evT_call, Vi.evT_isi, Vi.evT_blt, Vi.evT_ix, Vi.evT_bin, Vi.evT_bl, Vi.ex_pass, Vi.ex_asg, Vi.ex_expr, Vi.ex_ret, Vi.ex_retN, Vi.ex_if, Vi.ex_for, Vi.setK_s, Vi.setK2_s, Vi.setK3_s, Vi.ex_set, Vi.ex_aug, Vi.ex_augS, Vi.augM, Vi.augSM, Vi.exs_nil, Vi.exs_cons, Vi.run_b, Vi.runK_ret, Vi.runK_nx, Vi.frzE_nil, Vi.frz_cons, Vi.frzK_ol, Vi.frzK2_s, Vi.frzK_fz, Vi.frzK_no, Vi.frzK_olI, Vi.rdV_olI, Vi.mvV_olI, Vi.olO_olI, Vi.lent_olI, Vi.closed_olI, Vi.dOf_fz, Vi.dOf_olI, Vi.dOf_olI', Vi.dsOf_fz, Vi.dsOf_ints, Vi.dsOf_nil, Vi.dsOf_cons, Option.map_some, Vi.binD, Vi.add_int, Vi.sub_int, Vi.cmpD, Vi.lt_int, Vi.le_int, Vi.gt_int, Vi.ge_int, Vi.neg_int, Vi.bf_len_l, Vi.bf_len_t, Vi.bf_len_s, Vi.bf_abs, Vi.bf_int, Vi.bf_intb, Vi.bf_max2, Vi.bf_min2, Vi.bf_list_l, Vi.bf_list_t, Vi.bf_tup_l, Vi.bf_sum, Vi.ix_l, Vi.ix_t, Vi.isiD, Vi.chain2_eq, Vi.chainK_b, Vi.iop_add, Vi.iop_sub, Vi.it_l, Vi.it_t, Vi.lentOk, Vi.outs_nil, Vi.outs_fz, Vi.outs_c, List.tail_cons, Vi.killE, Vi.noOwn, Vi.closed, Vi.closeds, Vi.closedD, Vi.closeds_ints, Vi.wipeE, Vi.resE, Vi.bd_nm, Vi.bd_tp, Vi.bdN, Vi.bdT, Vi.bdsN, Vi.bdNil, Vi.bdCons, Vi.Tg.js, Vi.partM, Vi.eq_int, Vi.eq_str, Vi.eq_bool, Vi.eq_ints, rho__law_text, d, e1, a3, al]
      · simp -implicitDefEqProofs [Vi.bind_ok, Vi.bind_bad, Vi.bind_ex, Vi.so_ok, Vi.sb_nx, Vi.sb_ret, Vi.sb_bad, Vi.d_fz, Vi.d_olI, Vi.d_ol, Vi.o_some, Vi.tst_b, Vi.tst_i, Vi.tst_l, Vi.tst_s, Vi.tst_n, Vi.oB_some, Vi.oP_some, Vi.oL_some, Vi.rdV_fz, Vi.rdV_ol, Vi.rdV2_some, Vi.mvV_ol, Vi.mvV_fz, Vi.rdVar_c, Vi.ev_var, Vi.ev_mv, Vi.ev_int, Vi.ev_bl, Vi.ev_non, Vi.ev_str, Vi.ev_gi, Vi.ev_gs, Vi.ev_bin, Vi.ev_neg, Vi.ev_cmp, Vi.evT_cmp, Vi.ev_chain, Vi.ev_one, Vi.andK_b, Vi.orK_b, Vi.notK_b, Vi.ev_and, Vi.ev_or, Vi.ev_not, Vi.isB_b, Vi.ev_ite, Vi.ev_tup, Vi.ev_lst, Vi.ev_ix, Vi.ev_slc, Vi.evP_no, Vi.evP_yes, Vi.ev_call, Vi.calK_some, Vi.calR_ok, Vi.evA_nil, Vi.evA_e, Vi.evA_o, Vi.args_nil, Vi.args_e, Vi.args_o, Vi.argK_s, Vi.asm_nil, Vi.asm_e, Vi.asm_o, Vi.asmK_s, Vi.lent_ol, Vi.lent_sc, Vi.lent_fz, Vi.put_nil, Vi.put_e, Vi.put_o, Vi.ev_blt, Vi.ev_isi, Vi.ev_lsc, Vi.lscK_s, Vi.cmpK_ok, Vi.ev_lc, Vi.evC_no, Vi.evC_yes, Vi.evI_e, Vi.evI_r1, Vi.evI_r2, Vi.evs_nil, Vi.evs_cons, Vi.evO_nil, Vi.evO_cons, Vi.olO_s, Vi.olOf_c, Vi.appK_s, Vi.appK2_s, Vi.ev_app, Vi.ev_mt, Vi.evT_mt, Vi.appNK_s, Vi.ev_appN, Vi.inOf_c, Vi.inK_s, Vi.inK2_s, Vi.mvixK_s, Vi.ev_mvix, Vi.ev_rev, Vi.ev_repC, Vi.evT_rev, Vi.evI_en, Vi.evI_rv, Vi.evI_rg, Vi.rgK_s, Vi.asgTK_s, Vi.ex_asgT, Vi.bwsK_nx, Vi.bwsK_ret, Vi.ex_bws, Vi.ex_rais, Vi.tryK_nx, Vi.tryK_ret, Vi.ex_try, Vi.so_ex, Vi.sb_ex, Vi.d_ex, Vi.runK_ex, Vi.calR_ex, Vi.keepE, Vi.cloF, Vi.closedR, Vi.bwK_ok, Vi.ev_bw, Vi.bwK'_ok, Vi.evT_bw, Vi.evT_chain, Vi.evT_one, Vi.evT_and, Vi.evT_or, Vi.evT_not, Vi.evT_var, Vi.evT_call, Vi.evT_isi, Vi.evT_blt, Vi.evT_ix, Vi.evT_bin, Vi.evT_bl, Vi.ex_pass, Vi.ex_asg, Vi.ex_expr, Vi.ex_ret, Vi.ex_retN, Vi.ex_if, Vi.ex_for, Vi.setK_s, Vi.setK2_s, Vi.setK3_s, Vi.ex_set, Vi.ex_aug, Vi.ex_augS, Vi.augM, Vi.augSM, Vi.exs_nil, Vi.exs_cons, Vi.run_b, Vi.runK_ret, Vi.runK_nx, Vi.frzE_nil, Vi.frz_cons, Vi.frzK_ol, Vi.frzK2_s, Vi.frzK_fz, Vi.frzK_no, Vi.frzK_olI, Vi.rdV_olI, Vi.mvV_olI, Vi.olO_olI, Vi.lent_olI, Vi.closed_olI, Vi.dOf_fz, Vi.dOf_olI, Vi.dOf_olI', Vi.dsOf_fz, Vi.dsOf_ints, Vi.dsOf_nil, Vi.dsOf_cons, Option.map_some, Vi.binD, Vi.add_int, Vi.sub_int, Vi.cmpD, Vi.lt_int, Vi.le_int, Vi.gt_int, Vi.ge_int, Vi.neg_int, Vi.bf_len_l, Vi.bf_len_t, Vi.bf_len_s, Vi.bf_abs, Vi.bf_int, Vi.bf_intb, Vi.bf_max2, Vi.bf_min2, Vi.bf_list_l, Vi.bf_list_t, Vi.bf_tup_l, Vi.bf_sum, Vi.ix_l, Vi.ix_t, Vi.isiD, Vi.chain2_eq, Vi.chainK_b, Vi.iop_add, Vi.iop_sub, Vi.it_l, Vi.it_t, Vi.lentOk, Vi.outs_nil, Vi.outs_fz, Vi.outs_c, List.tail_cons, Vi.killE, Vi.noOwn, Vi.closed, Vi.closeds, Vi.closedD, Vi.closeds_ints, Vi.wipeE, Vi.resE, Vi.bd_nm, Vi.bd_tp, Vi.bdN, Vi.bdT, Vi.bdsN, Vi.bdNil, Vi.bdCons, Vi.Tg.js, Vi.partM, Vi.eq_int, Vi.eq_str, Vi.eq_bool, Vi.eq_ints]) f1 (rgI 0 size)
  rw [rgI_len] at w1
  have jn := join_one (w := w) (by omega)
  have e3 := feed_lent f3
  have w3 : ∀ c ∈ w, 97 ≤ c ∧ c < 105 := fun c hc => by have := w2 c hc; omega
  generalize az m = AZ at ib al c
  by_cases hs : 1 < size
  · obtain ⟨r4, o4, d4, l4, u4, f4⟩ := draw_ok f3 (many := 2) (by decide) (by decide)
    by_cases h4 : r4 = 0
    · obtain ⟨r5, o5, d5, l5, u5, f5⟩ := draw_ok f4 (many := size) (by omega) (by omega)
      have e4 := feed_lent f4
      obtain ⟨k, hk⟩ : ∃ k : Nat, 1 + r5 = (k : Int) := ⟨(1 + r5).toNat, by omega⟩
      obtain ⟨n, hn⟩ : ∃ n : Nat, size = (n : Int) := ⟨size.toNat, by omega⟩
      have s1 := slc_t (l := w) (m := k)
      have wk : (w.take k).length ≤ 1000 := by rw [List.length_take]; omega
      have wk1 : 1 ≤ (w.take k).length := by rw [List.length_take]; omega
      have wk3 : ∀ c ∈ w.take k, 97 ≤ c ∧ c < 105 := fun c hc => w3 c (List.mem_of_mem_take hc)
      have sz : 1000000 < sizeLine := by decide
      generalize w.take k = t at s1 wk wk1 wk3
      have mu := Vi.mul_pow (a := t) (k := n) (by have := Nat.mul_le_mul (show n ≤ 1000 by omega) wk; omega) (by omega)
      rw [← hn] at mu
      have s2 := slc_t (l := pow n t) (m := n)
      rw [← hn] at s2
      have pl : n ≤ (pow n t).length := by
        rw [K56.pow_len]; have := Nat.mul_le_mul (Nat.le_refl n) wk1; omega
      have pm : ∀ c ∈ (pow n t).take n, 97 ≤ c ∧ c < 105 := fun c hc => wk3 c (pow_mem (List.mem_of_mem_take hc))
      have ql : (((pow n t).take n).length : Int) = size := by rw [List.length_take]; omega
      generalize (pow n t).take n = q at s2 pm ql
      generalize pow n t = P at mu s2
      refine ⟨q, o5, [a1, some (.fz (.int size)), some (.fz (tx AZ)), some (.fz (tx q)), none], f5, ql, pm, ?_⟩
      simp -implicitDefEqProofs [b__law_text_3, b__law_text_2, b__law_text_1, b__law_text_0, Vi.bind_ok, Vi.bind_bad, Vi.bind_ex, Vi.so_ok, Vi.sb_nx, Vi.sb_ret, Vi.sb_bad, Vi.d_fz, Vi.d_olI, Vi.d_ol, Vi.o_some, Vi.tst_b, Vi.tst_i, Vi.tst_l, Vi.tst_s, Vi.tst_n, Vi.oB_some, Vi.oP_some, Vi.oL_some, Vi.rdV_fz, Vi.rdV_ol, Vi.rdV2_some, Vi.mvV_ol, Vi.mvV_fz, Vi.rdVar_c, Vi.ev_var, Vi.ev_mv, Vi.ev_int, Vi.ev_bl, Vi.ev_non, Vi.ev_str, Vi.ev_gi, Vi.ev_gs, Vi.ev_bin, Vi.ev_neg, Vi.ev_cmp, Vi.evT_cmp, Vi.ev_chain, Vi.ev_one, Vi.andK_b, Vi.orK_b, Vi.notK_b, Vi.ev_and, Vi.ev_or, Vi.ev_not, Vi.isB_b, Vi.ev_ite, Vi.ev_tup, Vi.ev_lst, Vi.ev_ix, Vi.ev_slc, Vi.evP_no, Vi.evP_yes, Vi.ev_call, Vi.calK_some, Vi.calR_ok, Vi.evA_nil, Vi.evA_e, Vi.evA_o, Vi.args_nil, Vi.args_e, Vi.args_o, Vi.argK_s, Vi.asm_nil, Vi.asm_e, Vi.asm_o, Vi.asmK_s, Vi.lent_ol, Vi.lent_sc, Vi.lent_fz, Vi.put_nil, Vi.put_e, Vi.put_o, Vi.ev_blt, Vi.ev_isi, Vi.ev_lsc, Vi.lscK_s, Vi.cmpK_ok, Vi.ev_lc, Vi.evC_no, Vi.evC_yes, Vi.evI_e, Vi.evI_r1, Vi.evI_r2, Vi.evs_nil, Vi.evs_cons, Vi.evO_nil, Vi.evO_cons, Vi.olO_s, Vi.olOf_c, Vi.appK_s, Vi.appK2_s, Vi.ev_app, Vi.ev_mt, Vi.evT_mt, Vi.appNK_s, Vi.ev_appN, Vi.inOf_c, Vi.inK_s, Vi.inK2_s, Vi.mvixK_s, Vi.ev_mvix, Vi.ev_rev, Vi.ev_repC, Vi.evT_rev, Vi.evI_en, Vi.evI_rv, Vi.evI_rg, Vi.rgK_s, Vi.asgTK_s, Vi.ex_asgT, Vi.bwsK_nx, Vi.bwsK_ret, Vi.ex_bws, Vi.ex_rais, Vi.tryK_nx, Vi.tryK_ret, Vi.ex_try, Vi.so_ex, Vi.sb_ex, Vi.d_ex, Vi.runK_ex, Vi.calR_ex, Vi.keepE, Vi.cloF, Vi.closedR, Vi.bwK_ok, Vi.ev_bw, Vi.bwK'_ok, Vi.evT_bw, Vi.evT_chain, Vi.evT_one, Vi.evT_and, Vi.evT_or, Vi.evT_not, Vi.evT_var, Vi.evT_call, Vi.evT_isi, Vi.evT_blt, Vi.evT_ix, Vi.evT_bin, Vi.evT_bl, Vi.ex_pass, Vi.ex_asg, Vi.ex_expr, Vi.ex_ret, Vi.ex_retN, Vi.ex_if, Vi.ex_for, Vi.setK_s, Vi.setK2_s, Vi.setK3_s, Vi.ex_set, Vi.ex_aug, Vi.ex_augS, Vi.augM, Vi.augSM, Vi.exs_nil, Vi.exs_cons, Vi.run_b, Vi.runK_ret, Vi.runK_nx, Vi.frzE_nil, Vi.frz_cons, Vi.frzK_ol, Vi.frzK2_s, Vi.frzK_fz, Vi.frzK_no, Vi.frzK_olI, Vi.rdV_olI, Vi.mvV_olI, Vi.olO_olI, Vi.lent_olI, Vi.closed_olI, Vi.dOf_fz, Vi.dOf_olI, Vi.dOf_olI', Vi.dsOf_fz, Vi.dsOf_ints, Vi.dsOf_nil, Vi.dsOf_cons, Option.map_some, Vi.binD, Vi.add_int, Vi.sub_int, Vi.cmpD, Vi.lt_int, Vi.le_int, Vi.gt_int, Vi.ge_int, Vi.neg_int, Vi.bf_len_l, Vi.bf_len_t, Vi.bf_len_s, Vi.bf_abs, Vi.bf_int, Vi.bf_intb, Vi.bf_max2, Vi.bf_min2, Vi.bf_list_l, Vi.bf_list_t, Vi.bf_tup_l, Vi.bf_sum, Vi.ix_l, Vi.ix_t, Vi.isiD, Vi.chain2_eq, Vi.chainK_b, Vi.iop_add, Vi.iop_sub, Vi.it_l, Vi.it_t, Vi.lentOk, Vi.outs_nil, Vi.outs_fz, Vi.outs_c, List.tail_cons, Vi.killE, Vi.noOwn, Vi.closed, Vi.closeds, Vi.closedD, Vi.closeds_ints, Vi.wipeE, Vi.resE, Vi.bd_nm, Vi.bd_tp, Vi.bdN, Vi.bdT, Vi.bdsN, Vi.bdNil, Vi.bdCons, Vi.Tg.js, Vi.partM, Vi.eq_int, Vi.eq_str, Vi.eq_bool, Vi.eq_ints, rho__law_text, d1, d4, d5, e1, e3, e4, ia, ib, sz6, sz4, rr, c, dsOf_map, dsOf_comp, jn, hs, h4, hk, s1, mu, s2]
    · refine ⟨w, o4, [a1, some (.fz (.int size)), some (.fz (tx AZ)), some (.fz (tx w)), none], f4, by omega, w3, ?_⟩
      simp -implicitDefEqProofs [b__law_text_3, b__law_text_2, b__law_text_1, b__law_text_0, Vi.bind_ok, Vi.bind_bad, Vi.bind_ex, Vi.so_ok, Vi.sb_nx, Vi.sb_ret, Vi.sb_bad, Vi.d_fz, Vi.d_olI, Vi.d_ol, Vi.o_some, Vi.tst_b, Vi.tst_i, Vi.tst_l, Vi.tst_s, Vi.tst_n, Vi.oB_some, Vi.oP_some, Vi.oL_some, Vi.rdV_fz, Vi.rdV_ol, Vi.rdV2_some, Vi.mvV_ol, Vi.mvV_fz, Vi.rdVar_c, Vi.ev_var, Vi.ev_mv, Vi.ev_int, Vi.ev_bl, Vi.ev_non, Vi.ev_str, Vi.ev_gi, Vi.ev_gs, Vi.ev_bin, Vi.ev_neg, Vi.ev_cmp, Vi.evT_cmp, Vi.ev_chain, Vi.ev_one, Vi.andK_b, Vi.orK_b, Vi.notK_b, Vi.ev_and, Vi.ev_or, Vi.ev_not, Vi.isB_b, Vi.ev_ite, Vi.ev_tup, Vi.ev_lst, Vi.ev_ix, Vi.ev_slc, Vi.evP_no, Vi.evP_yes, Vi.ev_call, Vi.calK_some, Vi.calR_ok, Vi.evA_nil, Vi.evA_e, Vi.evA_o, Vi.args_nil, Vi.args_e, Vi.args_o, Vi.argK_s, Vi.asm_nil, Vi.asm_e, Vi.asm_o, Vi.asmK_s, Vi.lent_ol, Vi.lent_sc, Vi.lent_fz, Vi.put_nil, Vi.put_e, Vi.put_o, Vi.ev_blt, Vi.ev_isi, Vi.ev_lsc, Vi.lscK_s, Vi.cmpK_ok, Vi.ev_lc, Vi.evC_no, Vi.evC_yes, Vi.evI_e, Vi.evI_r1, Vi.evI_r2, Vi.evs_nil, Vi.evs_cons, Vi.evO_nil, Vi.evO_cons, Vi.olO_s, Vi.olOf_c, Vi.appK_s, Vi.appK2_s, Vi.ev_app, Vi.ev_mt, Vi.evT_mt, Vi.appNK_s, Vi.ev_appN, Vi.inOf_c, Vi.inK_s, Vi.inK2_s, Vi.mvixK_s, Vi.ev_mvix, Vi.ev_rev, Vi.ev_repC, Vi.evT_rev, Vi.evI_en, Vi.evI_rv, Vi.evI_rg, Vi.rgK_s, Vi.asgTK_s, Vi.ex_asgT, Vi.bwsK_nx, Vi.bwsK_ret, Vi.ex_bws, Vi.ex_rais, Vi.tryK_nx, Vi.tryK_ret, Vi.ex_try, Vi.so_ex, Vi.sb_ex, Vi.d_ex, Vi.runK_ex, Vi.calR_ex, Vi.keepE, Vi.cloF, Vi.closedR, Vi.bwK_ok, Vi.ev_bw, Vi.bwK'_ok, Vi.evT_bw, Vi.evT_chain, Vi.evT_one, Vi.evT_and, Vi.evT_or, Vi.evT_not, Vi.evT_var, Vi.evT_call, Vi.evT_isi, Vi.evT_blt, Vi.evT_ix, Vi.evT_bin, Vi.evT_bl, Vi.ex_pass, Vi.ex_asg, Vi.ex_expr, Vi.ex_ret, Vi.ex_retN, Vi.ex_if, Vi.ex_for, Vi.setK_s, Vi.setK2_s, Vi.setK3_s, Vi.ex_set, Vi.ex_aug, Vi.ex_augS, Vi.augM, Vi.augSM, Vi.exs_nil, Vi.exs_cons, Vi.run_b, Vi.runK_ret, Vi.runK_nx, Vi.frzE_nil, Vi.frz_cons, Vi.frzK_ol, Vi.frzK2_s, Vi.frzK_fz, Vi.frzK_no, Vi.frzK_olI, Vi.rdV_olI, Vi.mvV_olI, Vi.olO_olI, Vi.lent_olI, Vi.closed_olI, Vi.dOf_fz, Vi.dOf_olI, Vi.dOf_olI', Vi.dsOf_fz, Vi.dsOf_ints, Vi.dsOf_nil, Vi.dsOf_cons, Option.map_some, Vi.binD, Vi.add_int, Vi.sub_int, Vi.cmpD, Vi.lt_int, Vi.le_int, Vi.gt_int, Vi.ge_int, Vi.neg_int, Vi.bf_len_l, Vi.bf_len_t, Vi.bf_len_s, Vi.bf_abs, Vi.bf_int, Vi.bf_intb, Vi.bf_max2, Vi.bf_min2, Vi.bf_list_l, Vi.bf_list_t, Vi.bf_tup_l, Vi.bf_sum, Vi.ix_l, Vi.ix_t, Vi.isiD, Vi.chain2_eq, Vi.chainK_b, Vi.iop_add, Vi.iop_sub, Vi.it_l, Vi.it_t, Vi.lentOk, Vi.outs_nil, Vi.outs_fz, Vi.outs_c, List.tail_cons, Vi.killE, Vi.noOwn, Vi.closed, Vi.closeds, Vi.closedD, Vi.closeds_ints, Vi.wipeE, Vi.resE, Vi.bd_nm, Vi.bd_tp, Vi.bdN, Vi.bdT, Vi.bdsN, Vi.bdNil, Vi.bdCons, Vi.Tg.js, Vi.partM, Vi.eq_int, Vi.eq_str, Vi.eq_bool, Vi.eq_ints, rho__law_text, d1, d4, e1, e3, ia, ib, sz6, sz4, rr, c, dsOf_map, dsOf_comp, jn, hs, h4]
  · refine ⟨w, o3, [a1, some (.fz (.int size)), some (.fz (tx AZ)), some (.fz (tx w)), none], f3, by omega, w3, ?_⟩
    simp -implicitDefEqProofs [b__law_text_3, b__law_text_2, b__law_text_1, b__law_text_0, Vi.bind_ok, Vi.bind_bad, Vi.bind_ex, Vi.so_ok, Vi.sb_nx, Vi.sb_ret, Vi.sb_bad, Vi.d_fz, Vi.d_olI, Vi.d_ol, Vi.o_some, Vi.tst_b, Vi.tst_i, Vi.tst_l, Vi.tst_s, Vi.tst_n, Vi.oB_some, Vi.oP_some, Vi.oL_some, Vi.rdV_fz, Vi.rdV_ol, Vi.rdV2_some, Vi.mvV_ol, Vi.mvV_fz, Vi.rdVar_c, Vi.ev_var, Vi.ev_mv, Vi.ev_int, Vi.ev_bl, Vi.ev_non, Vi.ev_str, Vi.ev_gi, Vi.ev_gs, Vi.ev_bin, Vi.ev_neg, Vi.ev_cmp, Vi.evT_cmp, Vi.ev_chain, Vi.ev_one, Vi.andK_b, Vi.orK_b, Vi.notK_b, Vi.ev_and, Vi.ev_or, Vi.ev_not, Vi.isB_b, Vi.ev_ite, Vi.ev_tup, Vi.ev_lst, Vi.ev_ix, Vi.ev_slc, Vi.evP_no, Vi.evP_yes, Vi.ev_call, Vi.calK_some, Vi.calR_ok, Vi.evA_nil, Vi.evA_e, Vi.evA_o, Vi.args_nil, Vi.args_e, Vi.args_o, Vi.argK_s, Vi.asm_nil, Vi.asm_e, Vi.asm_o, Vi.asmK_s, Vi.lent_ol, Vi.lent_sc, Vi.lent_fz, Vi.put_nil, Vi.put_e, Vi.put_o, Vi.ev_blt, Vi.ev_isi, Vi.ev_lsc, Vi.lscK_s, Vi.cmpK_ok, Vi.ev_lc, Vi.evC_no, Vi.evC_yes, Vi.evI_e, Vi.evI_r1, Vi.evI_r2, Vi.evs_nil, Vi.evs_cons, Vi.evO_nil, Vi.evO_cons, Vi.olO_s, Vi.olOf_c, Vi.appK_s, Vi.appK2_s, Vi.ev_app, Vi.ev_mt, Vi.evT_mt, Vi.appNK_s, Vi.ev_appN, Vi.inOf_c, Vi.inK_s, Vi.inK2_s, Vi.mvixK_s, Vi.ev_mvix, Vi.ev_rev, Vi.ev_repC, Vi.evT_rev, Vi.evI_en, Vi.evI_rv, Vi.evI_rg, Vi.rgK_s, Vi.asgTK_s, Vi.ex_asgT, Vi.bwsK_nx, Vi.bwsK_ret, Vi.ex_bws, Vi.ex_rais, Vi.tryK_nx, Vi.tryK_ret, Vi.ex_try, Vi.so_ex, Vi.sb_ex, Vi.d_ex, Vi.runK_ex, Vi.calR_ex, Vi.keepE, Vi.cloF, Vi.closedR, Vi.bwK_ok, Vi.ev_bw, Vi.bwK'_ok, Vi.evT_bw, Vi.evT_chain, Vi.evT_one, Vi.evT_and, Vi.evT_or, Vi.evT_not, Vi.evT_var, Vi.evT_call, Vi.evT_isi, Vi.evT_blt, Vi.evT_ix, Vi.evT_bin, Vi.evT_bl, Vi.ex_pass, Vi.ex_asg, Vi.ex_expr, Vi.ex_ret, Vi.ex_retN, Vi.ex_if, Vi.ex_for, Vi.setK_s, Vi.setK2_s, Vi.setK3_s, Vi.ex_set, Vi.ex_aug, Vi.ex_augS, Vi.augM, Vi.augSM, Vi.exs_nil, Vi.exs_cons, Vi.run_b, Vi.runK_ret, Vi.runK_nx, Vi.frzE_nil, Vi.frz_cons, Vi.frzK_ol, Vi.frzK2_s, Vi.frzK_fz, Vi.frzK_no, Vi.frzK_olI, Vi.rdV_olI, Vi.mvV_olI, Vi.olO_olI, Vi.lent_olI, Vi.closed_olI, Vi.dOf_fz, Vi.dOf_olI, Vi.dOf_olI', Vi.dsOf_fz, Vi.dsOf_ints, Vi.dsOf_nil, Vi.dsOf_cons, Option.map_some, Vi.binD, Vi.add_int, Vi.sub_int, Vi.cmpD, Vi.lt_int, Vi.le_int, Vi.gt_int, Vi.ge_int, Vi.neg_int, Vi.bf_len_l, Vi.bf_len_t, Vi.bf_len_s, Vi.bf_abs, Vi.bf_int, Vi.bf_intb, Vi.bf_max2, Vi.bf_min2, Vi.bf_list_l, Vi.bf_list_t, Vi.bf_tup_l, Vi.bf_sum, Vi.ix_l, Vi.ix_t, Vi.isiD, Vi.chain2_eq, Vi.chainK_b, Vi.iop_add, Vi.iop_sub, Vi.it_l, Vi.it_t, Vi.lentOk, Vi.outs_nil, Vi.outs_fz, Vi.outs_c, List.tail_cons, Vi.killE, Vi.noOwn, Vi.closed, Vi.closeds, Vi.closedD, Vi.closeds_ints, Vi.wipeE, Vi.resE, Vi.bd_nm, Vi.bd_tp, Vi.bdN, Vi.bdT, Vi.bdsN, Vi.bdNil, Vi.bdCons, Vi.Tg.js, Vi.partM, Vi.eq_int, Vi.eq_str, Vi.eq_bool, Vi.eq_ints, rho__law_text, d1, e1, e3, ia, ib, sz6, sz4, rr, c, dsOf_map, dsOf_comp, jn, hs]
theorem text_ok {o : OV} (ho : IsFeed o) {most : Int} (h0 : 0 ≤ most) (h1 : most ≤ 900) : ∃ (w : List Nat) (o' : OV), IsFeed o' ∧ ((w.length : Int) ≤ most ∨ w.length ≤ 14) ∧ (∀ c ∈ w, 97 ≤ c ∧ c < 105) ∧ den__law_text [o, .fz (.int most)] = .ok (.fz (tx w)) [some o', none] := by
  obtain ⟨r1, o1, d1, l1, u1, f1⟩ := draw_ok ho (many := 15) (by decide) (by decide)
  obtain ⟨r2, o2, d2, l2, u2, f2⟩ := draw_ok f1 (many := 8) (by decide) (by decide)
  have e0 := feed_lent ho
  have e1 := feed_lent f1
  have e2 := feed_lent f2
  by_cases h : r2 = 0
  · obtain ⟨r3, o3, d3, l3, u3, f3⟩ := draw_ok f2 (many := most + 1) (by omega) (by omega)
    obtain ⟨w, o4, E, f4, q1, q2, q3⟩ := text2_ok f3 (a1 := some (.fz (.int most))) (size := r3) l3 (by omega)
    refine ⟨w, o4, f4, Or.inl (by omega), q2, ?_⟩
    simp -implicitDefEqProofs [den__law_text, bod__law_text, b__law_text_5, b__law_text_4, Vi.bind_ok, Vi.bind_bad, Vi.bind_ex, Vi.so_ok, Vi.sb_nx, Vi.sb_ret, Vi.sb_bad, Vi.d_fz, Vi.d_olI, Vi.d_ol, Vi.o_some, Vi.tst_b, Vi.tst_i, Vi.tst_l, Vi.tst_s, Vi.tst_n, Vi.oB_some, Vi.oP_some, Vi.oL_some, Vi.rdV_fz, Vi.rdV_ol, Vi.rdV2_some, Vi.mvV_ol, Vi.mvV_fz, Vi.rdVar_c, Vi.ev_var, Vi.ev_mv, Vi.ev_int, Vi.ev_bl, Vi.ev_non, Vi.ev_str, Vi.ev_gi, Vi.ev_gs, Vi.ev_bin, Vi.ev_neg, Vi.ev_cmp, Vi.evT_cmp, Vi.ev_chain, Vi.ev_one, Vi.andK_b, Vi.orK_b, Vi.notK_b, Vi.ev_and, Vi.ev_or, Vi.ev_not, Vi.isB_b, Vi.ev_ite, Vi.ev_tup, Vi.ev_lst, Vi.ev_ix, Vi.ev_slc, Vi.evP_no, Vi.evP_yes, Vi.ev_call, Vi.calK_some, Vi.calR_ok, Vi.evA_nil, Vi.evA_e, Vi.evA_o, Vi.args_nil, Vi.args_e, Vi.args_o, Vi.argK_s, Vi.asm_nil, Vi.asm_e, Vi.asm_o, Vi.asmK_s, Vi.lent_ol, Vi.lent_sc, Vi.lent_fz, Vi.put_nil, Vi.put_e, Vi.put_o, Vi.ev_blt, Vi.ev_isi, Vi.ev_lsc, Vi.lscK_s, Vi.cmpK_ok, Vi.ev_lc, Vi.evC_no, Vi.evC_yes, Vi.evI_e, Vi.evI_r1, Vi.evI_r2, Vi.evs_nil, Vi.evs_cons, Vi.evO_nil, Vi.evO_cons, Vi.olO_s, Vi.olOf_c, Vi.appK_s, Vi.appK2_s, Vi.ev_app, Vi.ev_mt, Vi.evT_mt, Vi.appNK_s, Vi.ev_appN, Vi.inOf_c, Vi.inK_s, Vi.inK2_s, Vi.mvixK_s, Vi.ev_mvix, Vi.ev_rev, Vi.ev_repC, Vi.evT_rev, Vi.evI_en, Vi.evI_rv, Vi.evI_rg, Vi.rgK_s, Vi.asgTK_s, Vi.ex_asgT, Vi.bwsK_nx, Vi.bwsK_ret, Vi.ex_bws, Vi.ex_rais, Vi.tryK_nx, Vi.tryK_ret, Vi.ex_try, Vi.so_ex, Vi.sb_ex, Vi.d_ex, Vi.runK_ex, Vi.calR_ex, Vi.keepE, Vi.cloF, Vi.closedR, Vi.bwK_ok, Vi.ev_bw, Vi.bwK'_ok, Vi.evT_bw, Vi.evT_chain, Vi.evT_one, Vi.evT_and, Vi.evT_or, Vi.evT_not, Vi.evT_var, Vi.evT_call, Vi.evT_isi, Vi.evT_blt, Vi.evT_ix, Vi.evT_bin, Vi.evT_bl, Vi.ex_pass, Vi.ex_asg, Vi.ex_expr, Vi.ex_ret, Vi.ex_retN, Vi.ex_if, Vi.ex_for, Vi.setK_s, Vi.setK2_s, Vi.setK3_s, Vi.ex_set, Vi.ex_aug, Vi.ex_augS, Vi.augM, Vi.augSM, Vi.exs_nil, Vi.exs_cons, Vi.run_b, Vi.runK_ret, Vi.runK_nx, Vi.frzE_nil, Vi.frz_cons, Vi.frzK_ol, Vi.frzK2_s, Vi.frzK_fz, Vi.frzK_no, Vi.frzK_olI, Vi.rdV_olI, Vi.mvV_olI, Vi.olO_olI, Vi.lent_olI, Vi.closed_olI, Vi.dOf_fz, Vi.dOf_olI, Vi.dOf_olI', Vi.dsOf_fz, Vi.dsOf_ints, Vi.dsOf_nil, Vi.dsOf_cons, Option.map_some, Vi.binD, Vi.add_int, Vi.sub_int, Vi.cmpD, Vi.lt_int, Vi.le_int, Vi.gt_int, Vi.ge_int, Vi.neg_int, Vi.bf_len_l, Vi.bf_len_t, Vi.bf_len_s, Vi.bf_abs, Vi.bf_int, Vi.bf_intb, Vi.bf_max2, Vi.bf_min2, Vi.bf_list_l, Vi.bf_list_t, Vi.bf_tup_l, Vi.bf_sum, Vi.ix_l, Vi.ix_t, Vi.isiD, Vi.chain2_eq, Vi.chainK_b, Vi.iop_add, Vi.iop_sub, Vi.it_l, Vi.it_t, Vi.lentOk, Vi.outs_nil, Vi.outs_fz, Vi.outs_c, List.tail_cons, Vi.killE, Vi.noOwn, Vi.closed, Vi.closeds, Vi.closedD, Vi.closeds_ints, Vi.wipeE, Vi.resE, Vi.bd_nm, Vi.bd_tp, Vi.bdN, Vi.bdT, Vi.bdsN, Vi.bdNil, Vi.bdCons, Vi.Tg.js, Vi.partM, Vi.eq_int, Vi.eq_str, Vi.eq_bool, Vi.eq_ints, rho__law_text, d1, d2, d3, e0, e1, e2, h] at q3 ⊢
    rw [q3]
    simp -implicitDefEqProofs [Vi.bind_ok, Vi.bind_bad, Vi.bind_ex, Vi.so_ok, Vi.sb_nx, Vi.sb_ret, Vi.sb_bad, Vi.d_fz, Vi.d_olI, Vi.d_ol, Vi.o_some, Vi.tst_b, Vi.tst_i, Vi.tst_l, Vi.tst_s, Vi.tst_n, Vi.oB_some, Vi.oP_some, Vi.oL_some, Vi.rdV_fz, Vi.rdV_ol, Vi.rdV2_some, Vi.mvV_ol, Vi.mvV_fz, Vi.rdVar_c, Vi.ev_var, Vi.ev_mv, Vi.ev_int, Vi.ev_bl, Vi.ev_non, Vi.ev_str, Vi.ev_gi, Vi.ev_gs, Vi.ev_bin, Vi.ev_neg, Vi.ev_cmp, Vi.evT_cmp, Vi.ev_chain, Vi.ev_one, Vi.andK_b, Vi.orK_b, Vi.notK_b, Vi.ev_and, Vi.ev_or, Vi.ev_not, Vi.isB_b, Vi.ev_ite, Vi.ev_tup, Vi.ev_lst, Vi.ev_ix, Vi.ev_slc, Vi.evP_no, Vi.evP_yes, Vi.ev_call, Vi.calK_some, Vi.calR_ok, Vi.evA_nil, Vi.evA_e, Vi.evA_o, Vi.args_nil, Vi.args_e, Vi.args_o, Vi.argK_s, Vi.asm_nil, Vi.asm_e, Vi.asm_o, Vi.asmK_s, Vi.lent_ol, Vi.lent_sc, Vi.lent_fz, Vi.put_nil, Vi.put_e, Vi.put_o, Vi.ev_blt, Vi.ev_isi, Vi.ev_lsc, Vi.lscK_s, Vi.cmpK_ok, Vi.ev_lc, Vi.evC_no, Vi.evC_yes, Vi.evI_e, Vi.evI_r1, Vi.evI_r2, Vi.evs_nil, Vi.evs_cons, Vi.evO_nil, Vi.evO_cons, Vi.olO_s, Vi.olOf_c, Vi.appK_s, Vi.appK2_s, Vi.ev_app, Vi.ev_mt, Vi.evT_mt, Vi.appNK_s, Vi.ev_appN, Vi.inOf_c, Vi.inK_s, Vi.inK2_s, Vi.mvixK_s, Vi.ev_mvix, Vi.ev_rev, Vi.ev_repC, Vi.evT_rev, Vi.evI_en, Vi.evI_rv, Vi.evI_rg, Vi.rgK_s, Vi.asgTK_s, Vi.ex_asgT, Vi.bwsK_nx, Vi.bwsK_ret, Vi.ex_bws, Vi.ex_rais, Vi.tryK_nx, Vi.tryK_ret, Vi.ex_try, Vi.so_ex, Vi.sb_ex, Vi.d_ex, Vi.runK_ex, Vi.calR_ex, Vi.keepE, Vi.cloF, Vi.closedR, Vi.bwK_ok, Vi.ev_bw, Vi.bwK'_ok, Vi.evT_bw, Vi.evT_chain, Vi.evT_one, Vi.evT_and, Vi.evT_or, Vi.evT_not, Vi.evT_var, Vi.evT_call, Vi.evT_isi, Vi.evT_blt, Vi.evT_ix, Vi.evT_bin, Vi.evT_bl, Vi.ex_pass, Vi.ex_asg, Vi.ex_expr, Vi.ex_ret, Vi.ex_retN, Vi.ex_if, Vi.ex_for, Vi.setK_s, Vi.setK2_s, Vi.setK3_s, Vi.ex_set, Vi.ex_aug, Vi.ex_augS, Vi.augM, Vi.augSM, Vi.exs_nil, Vi.exs_cons, Vi.run_b, Vi.runK_ret, Vi.runK_nx, Vi.frzE_nil, Vi.frz_cons, Vi.frzK_ol, Vi.frzK2_s, Vi.frzK_fz, Vi.frzK_no, Vi.frzK_olI, Vi.rdV_olI, Vi.mvV_olI, Vi.olO_olI, Vi.lent_olI, Vi.closed_olI, Vi.dOf_fz, Vi.dOf_olI, Vi.dOf_olI', Vi.dsOf_fz, Vi.dsOf_ints, Vi.dsOf_nil, Vi.dsOf_cons, Option.map_some, Vi.binD, Vi.add_int, Vi.sub_int, Vi.cmpD, Vi.lt_int, Vi.le_int, Vi.gt_int, Vi.ge_int, Vi.neg_int, Vi.bf_len_l, Vi.bf_len_t, Vi.bf_len_s, Vi.bf_abs, Vi.bf_int, Vi.bf_intb, Vi.bf_max2, Vi.bf_min2, Vi.bf_list_l, Vi.bf_list_t, Vi.bf_tup_l, Vi.bf_sum, Vi.ix_l, Vi.ix_t, Vi.isiD, Vi.chain2_eq, Vi.chainK_b, Vi.iop_add, Vi.iop_sub, Vi.it_l, Vi.it_t, Vi.lentOk, Vi.outs_nil, Vi.outs_fz, Vi.outs_c, List.tail_cons, Vi.killE, Vi.noOwn, Vi.closed, Vi.closeds, Vi.closedD, Vi.closeds_ints, Vi.wipeE, Vi.resE, Vi.bd_nm, Vi.bd_tp, Vi.bdN, Vi.bdT, Vi.bdsN, Vi.bdNil, Vi.bdCons, Vi.Tg.js, Vi.partM, Vi.eq_int, Vi.eq_str, Vi.eq_bool, Vi.eq_ints, e0]
  · obtain ⟨w, o4, E, f4, q1, q2, q3⟩ := text2_ok f2 (a1 := some (.fz (.int most))) (size := r1) l1 (by omega)
    refine ⟨w, o4, f4, Or.inr (by omega), q2, ?_⟩
    simp -implicitDefEqProofs [den__law_text, bod__law_text, b__law_text_5, b__law_text_4, Vi.bind_ok, Vi.bind_bad, Vi.bind_ex, Vi.so_ok, Vi.sb_nx, Vi.sb_ret, Vi.sb_bad, Vi.d_fz, Vi.d_olI, Vi.d_ol, Vi.o_some, Vi.tst_b, Vi.tst_i, Vi.tst_l, Vi.tst_s, Vi.tst_n, Vi.oB_some, Vi.oP_some, Vi.oL_some, Vi.rdV_fz, Vi.rdV_ol, Vi.rdV2_some, Vi.mvV_ol, Vi.mvV_fz, Vi.rdVar_c, Vi.ev_var, Vi.ev_mv, Vi.ev_int, Vi.ev_bl, Vi.ev_non, Vi.ev_str, Vi.ev_gi, Vi.ev_gs, Vi.ev_bin, Vi.ev_neg, Vi.ev_cmp, Vi.evT_cmp, Vi.ev_chain, Vi.ev_one, Vi.andK_b, Vi.orK_b, Vi.notK_b, Vi.ev_and, Vi.ev_or, Vi.ev_not, Vi.isB_b, Vi.ev_ite, Vi.ev_tup, Vi.ev_lst, Vi.ev_ix, Vi.ev_slc, Vi.evP_no, Vi.evP_yes, Vi.ev_call, Vi.calK_some, Vi.calR_ok, Vi.evA_nil, Vi.evA_e, Vi.evA_o, Vi.args_nil, Vi.args_e, Vi.args_o, Vi.argK_s, Vi.asm_nil, Vi.asm_e, Vi.asm_o, Vi.asmK_s, Vi.lent_ol, Vi.lent_sc, Vi.lent_fz, Vi.put_nil, Vi.put_e, Vi.put_o, Vi.ev_blt, Vi.ev_isi, Vi.ev_lsc, Vi.lscK_s, Vi.cmpK_ok, Vi.ev_lc, Vi.evC_no, Vi.evC_yes, Vi.evI_e, Vi.evI_r1, Vi.evI_r2, Vi.evs_nil, Vi.evs_cons, Vi.evO_nil, Vi.evO_cons, Vi.olO_s, Vi.olOf_c, Vi.appK_s, Vi.appK2_s, Vi.ev_app, Vi.ev_mt, Vi.evT_mt, Vi.appNK_s, Vi.ev_appN, Vi.inOf_c, Vi.inK_s, Vi.inK2_s, Vi.mvixK_s, Vi.ev_mvix, Vi.ev_rev, Vi.ev_repC, Vi.evT_rev, Vi.evI_en, Vi.evI_rv, Vi.evI_rg, Vi.rgK_s, Vi.asgTK_s, Vi.ex_asgT, Vi.bwsK_nx, Vi.bwsK_ret, Vi.ex_bws, Vi.ex_rais, Vi.tryK_nx, Vi.tryK_ret, Vi.ex_try, Vi.so_ex, Vi.sb_ex, Vi.d_ex, Vi.runK_ex, Vi.calR_ex, Vi.keepE, Vi.cloF, Vi.closedR, Vi.bwK_ok, Vi.ev_bw, Vi.bwK'_ok, Vi.evT_bw, Vi.evT_chain, Vi.evT_one, Vi.evT_and, Vi.evT_or, Vi.evT_not, Vi.evT_var, Vi.evT_call, Vi.evT_isi, Vi.evT_blt, Vi.evT_ix, Vi.evT_bin, Vi.evT_bl, Vi.ex_pass, Vi.ex_asg, Vi.ex_expr, Vi.ex_ret, Vi.ex_retN, Vi.ex_if, Vi.ex_for, Vi.setK_s, Vi.setK2_s, Vi.setK3_s, Vi.ex_set, Vi.ex_aug, Vi.ex_augS, Vi.augM, Vi.augSM, Vi.exs_nil, Vi.exs_cons, Vi.run_b, Vi.runK_ret, Vi.runK_nx, Vi.frzE_nil, Vi.frz_cons, Vi.frzK_ol, Vi.frzK2_s, Vi.frzK_fz, Vi.frzK_no, Vi.frzK_olI, Vi.rdV_olI, Vi.mvV_olI, Vi.olO_olI, Vi.lent_olI, Vi.closed_olI, Vi.dOf_fz, Vi.dOf_olI, Vi.dOf_olI', Vi.dsOf_fz, Vi.dsOf_ints, Vi.dsOf_nil, Vi.dsOf_cons, Option.map_some, Vi.binD, Vi.add_int, Vi.sub_int, Vi.cmpD, Vi.lt_int, Vi.le_int, Vi.gt_int, Vi.ge_int, Vi.neg_int, Vi.bf_len_l, Vi.bf_len_t, Vi.bf_len_s, Vi.bf_abs, Vi.bf_int, Vi.bf_intb, Vi.bf_max2, Vi.bf_min2, Vi.bf_list_l, Vi.bf_list_t, Vi.bf_tup_l, Vi.bf_sum, Vi.ix_l, Vi.ix_t, Vi.isiD, Vi.chain2_eq, Vi.chainK_b, Vi.iop_add, Vi.iop_sub, Vi.it_l, Vi.it_t, Vi.lentOk, Vi.outs_nil, Vi.outs_fz, Vi.outs_c, List.tail_cons, Vi.killE, Vi.noOwn, Vi.closed, Vi.closeds, Vi.closedD, Vi.closeds_ints, Vi.wipeE, Vi.resE, Vi.bd_nm, Vi.bd_tp, Vi.bdN, Vi.bdT, Vi.bdsN, Vi.bdNil, Vi.bdCons, Vi.Tg.js, Vi.partM, Vi.eq_int, Vi.eq_str, Vi.eq_bool, Vi.eq_ints, rho__law_text, d1, d2, e0, e1, h] at q3 ⊢
    rw [q3]
    simp -implicitDefEqProofs [Vi.bind_ok, Vi.bind_bad, Vi.bind_ex, Vi.so_ok, Vi.sb_nx, Vi.sb_ret, Vi.sb_bad, Vi.d_fz, Vi.d_olI, Vi.d_ol, Vi.o_some, Vi.tst_b, Vi.tst_i, Vi.tst_l, Vi.tst_s, Vi.tst_n, Vi.oB_some, Vi.oP_some, Vi.oL_some, Vi.rdV_fz, Vi.rdV_ol, Vi.rdV2_some, Vi.mvV_ol, Vi.mvV_fz, Vi.rdVar_c, Vi.ev_var, Vi.ev_mv, Vi.ev_int, Vi.ev_bl, Vi.ev_non, Vi.ev_str, Vi.ev_gi, Vi.ev_gs, Vi.ev_bin, Vi.ev_neg, Vi.ev_cmp, Vi.evT_cmp, Vi.ev_chain, Vi.ev_one, Vi.andK_b, Vi.orK_b, Vi.notK_b, Vi.ev_and, Vi.ev_or, Vi.ev_not, Vi.isB_b, Vi.ev_ite, Vi.ev_tup, Vi.ev_lst, Vi.ev_ix, Vi.ev_slc, Vi.evP_no, Vi.evP_yes, Vi.ev_call, Vi.calK_some, Vi.calR_ok, Vi.evA_nil, Vi.evA_e, Vi.evA_o, Vi.args_nil, Vi.args_e, Vi.args_o, Vi.argK_s, Vi.asm_nil, Vi.asm_e, Vi.asm_o, Vi.asmK_s, Vi.lent_ol, Vi.lent_sc, Vi.lent_fz, Vi.put_nil, Vi.put_e, Vi.put_o, Vi.ev_blt, Vi.ev_isi, Vi.ev_lsc, Vi.lscK_s, Vi.cmpK_ok, Vi.ev_lc, Vi.evC_no, Vi.evC_yes, Vi.evI_e, Vi.evI_r1, Vi.evI_r2, Vi.evs_nil, Vi.evs_cons, Vi.evO_nil, Vi.evO_cons, Vi.olO_s, Vi.olOf_c, Vi.appK_s, Vi.appK2_s, Vi.ev_app, Vi.ev_mt, Vi.evT_mt, Vi.appNK_s, Vi.ev_appN, Vi.inOf_c, Vi.inK_s, Vi.inK2_s, Vi.mvixK_s, Vi.ev_mvix, Vi.ev_rev, Vi.ev_repC, Vi.evT_rev, Vi.evI_en, Vi.evI_rv, Vi.evI_rg, Vi.rgK_s, Vi.asgTK_s, Vi.ex_asgT, Vi.bwsK_nx, Vi.bwsK_ret, Vi.ex_bws, Vi.ex_rais, Vi.tryK_nx, Vi.tryK_ret, Vi.ex_try, Vi.so_ex, Vi.sb_ex, Vi.d_ex, Vi.runK_ex, Vi.calR_ex, Vi.keepE, Vi.cloF, Vi.closedR, Vi.bwK_ok, Vi.ev_bw, Vi.bwK'_ok, Vi.evT_bw, Vi.evT_chain, Vi.evT_one, Vi.evT_and, Vi.evT_or, Vi.evT_not, Vi.evT_var, Vi.evT_call, Vi.evT_isi, Vi.evT_blt, Vi.evT_ix, Vi.evT_bin, Vi.evT_bl, Vi.ex_pass, Vi.ex_asg, Vi.ex_expr, Vi.ex_ret, Vi.ex_retN, Vi.ex_if, Vi.ex_for, Vi.setK_s, Vi.setK2_s, Vi.setK3_s, Vi.ex_set, Vi.ex_aug, Vi.ex_augS, Vi.augM, Vi.augSM, Vi.exs_nil, Vi.exs_cons, Vi.run_b, Vi.runK_ret, Vi.runK_nx, Vi.frzE_nil, Vi.frz_cons, Vi.frzK_ol, Vi.frzK2_s, Vi.frzK_fz, Vi.frzK_no, Vi.frzK_olI, Vi.rdV_olI, Vi.mvV_olI, Vi.olO_olI, Vi.lent_olI, Vi.closed_olI, Vi.dOf_fz, Vi.dOf_olI, Vi.dOf_olI', Vi.dsOf_fz, Vi.dsOf_ints, Vi.dsOf_nil, Vi.dsOf_cons, Option.map_some, Vi.binD, Vi.add_int, Vi.sub_int, Vi.cmpD, Vi.lt_int, Vi.le_int, Vi.gt_int, Vi.ge_int, Vi.neg_int, Vi.bf_len_l, Vi.bf_len_t, Vi.bf_len_s, Vi.bf_abs, Vi.bf_int, Vi.bf_intb, Vi.bf_max2, Vi.bf_min2, Vi.bf_list_l, Vi.bf_list_t, Vi.bf_tup_l, Vi.bf_sum, Vi.ix_l, Vi.ix_t, Vi.isiD, Vi.chain2_eq, Vi.chainK_b, Vi.iop_add, Vi.iop_sub, Vi.it_l, Vi.it_t, Vi.lentOk, Vi.outs_nil, Vi.outs_fz, Vi.outs_c, List.tail_cons, Vi.killE, Vi.noOwn, Vi.closed, Vi.closeds, Vi.closedD, Vi.closeds_ints, Vi.wipeE, Vi.resE, Vi.bd_nm, Vi.bd_tp, Vi.bdN, Vi.bdT, Vi.bdsN, Vi.bdNil, Vi.bdCons, Vi.Tg.js, Vi.partM, Vi.eq_int, Vi.eq_str, Vi.eq_bool, Vi.eq_ints, e0]
end Vi

set_option Elab.async false
set_option linter.all false
set_option maxRecDepth 100000
namespace K17
open PySem Vi L2
def tab_has_period : Tab := ⟨["text", "p"], [], ["len"], [], [], [], []⟩
def b_has_period_0 : Sts := (.cons (.ret (.cmp .Eq (.slc (.var 0) (.yes (.var 1)) .no) (.slc (.var 0) .no (.yes (.bin .Sub (.blt .len (.cons (.var 0) .nil)) (.var 1)))))) .nil)
def bod_has_period : Sts := b_has_period_0
def rho_has_period : Rho := fun _ _ => .bad
def den_has_period : Den := runB 2 2 [] (exs rho_has_period [] bod_has_period)
def tab_periods_of : Tab := ⟨["text", "p"], [("has_period", 2)], ["range", "len"], [], [], [], []⟩
def b_periods_of_0 : Sts := (.cons (.ret (.lc (.var 1) (.nm 1) (.r2 (.int 1) (.bin .Add (.blt .len (.cons (.var 0) .nil)) (.int 1))) (.yes (.call 0 (.e (.var 0) (.e (.var 1) .nil)))) [1])) .nil)
def bod_periods_of : Sts := b_periods_of_0
def rho_periods_of : Rho := fun f => match f with
  | 0 => den_has_period
  | _ => fun _ => .bad
def den_periods_of : Den := runB 1 2 [] (exs rho_periods_of [] bod_periods_of)
def tab_is_near_period : Tab := ⟨["text", "k", "p", "places", "at"], [], ["all", "range", "min", "len", "max"], [], [], [], []⟩
def b_is_near_period_0 : Sts := (.cons (.ret (.blt .all (.cons (.lc (.cmp .Eq (.ix (.var 0) (.var 4)) (.ix (.var 0) (.bin .Add (.var 4) (.var 2)))) (.nm 4) (.rg 3) .no [4]) .nil))) .nil)
def b_is_near_period_1 : Sts := (.cons (.asg 3 (.blt .range (.cons (.blt .max (.cons (.int 0) (.cons (.bin .Sub (.var 1) (.var 2)) .nil))) (.cons (.blt .min (.cons (.var 1) (.cons (.bin .Sub (.blt .len (.cons (.var 0) .nil)) (.var 2)) .nil))) .nil)))) b_is_near_period_0)
def bod_is_near_period : Sts := b_is_near_period_1
def rho_is_near_period : Rho := fun _ _ => .bad
def den_is_near_period : Den := runB 3 5 [] (exs rho_is_near_period [] bod_is_near_period)
def tab_near_period : Tab := ⟨["text", "k", "p"], [("is_near_period", 3)], [], [], [], [], []⟩
def b_near_period_0 : Sts := (.cons (.ret (.var 2)) .nil)
def b_near_period_1 : Sts := (.cons (.aug 2 .Add (.int 1)) .nil)
def b_near_period_2 : Sts := (.cons (.whl 1000000 (.not (.call 0 (.e (.var 0) (.e (.var 1) (.e (.var 2) .nil))))) b_near_period_1) b_near_period_0)
def b_near_period_3 : Sts := (.cons (.asg 2 (.int 1)) b_near_period_2)
def bod_near_period : Sts := b_near_period_3
def rho_near_period : Rho := fun f => match f with
  | 0 => den_is_near_period
  | _ => fun _ => .bad
def den_near_period : Den := runB 2 3 [] (exs rho_near_period [] bod_near_period)
def tab_near_periods : Tab := ⟨["text", "k"], [("near_period", 2)], ["range", "len"], [], [], [], []⟩
def b_near_periods_0 : Sts := (.cons (.ret (.lc (.call 0 (.e (.var 0) (.e (.var 1) .nil))) (.nm 1) (.r2 (.int 1) (.blt .len (.cons (.var 0) .nil))) .no [1])) .nil)
def bod_near_periods : Sts := b_near_periods_0
def rho_near_periods : Rho := fun f => match f with
  | 0 => den_near_period
  | _ => fun _ => .bad
def den_near_periods : Den := runB 1 2 [] (exs rho_near_periods [] bod_near_periods)
def tab_breaks_at : Tab := ⟨["text", "least", "at", "p"], [("periods_of", 1), ("near_periods", 1)], ["enumerate"], [], [], [], []⟩
def b_breaks_at_0 : Sts := (.cons (.ret (.lc (.bin .Add (.var 2) (.int 1)) (.tp [2, 3]) (.en (.call 1 (.e (.var 0) .nil))) (.yes (.cmp .Eq (.var 3) (.var 1))) [2, 3])) .nil)
def b_breaks_at_1 : Sts := (.cons (.asg 1 (.ix (.call 0 (.e (.var 0) .nil)) (.int 0))) b_breaks_at_0)
def bod_breaks_at : Sts := b_breaks_at_1
def rho_breaks_at : Rho := fun f => match f with
  | 0 => den_periods_of
  | 1 => den_near_periods
  | _ => fun _ => .bad
def den_breaks_at : Den := runB 1 4 [] (exs rho_breaks_at [] bod_breaks_at)
def tab__law_feed : Tab := ⟨["script"], [], ["list"], [], [], [], []⟩
def b__law_feed_0 : Sts := (.cons (.ret (.lst (.cons (.lsc 0) (.cons (.int 0) (.cons (.int 0) (.cons (.int 1) .nil)))))) .nil)
def bod__law_feed : Sts := b__law_feed_0
def rho__law_feed : Rho := fun _ _ => .bad
def den__law_feed : Den := runB 1 1 [0] (exs rho__law_feed [0] bod__law_feed)
def tab__law_draw : Tab := ⟨["feed", "many", "mixed", "cell", "told"], [], ["int", "len", "abs"], [], [], [], []⟩
def b__law_draw_0 : Sts := (.cons (.ret (.bin .Mod (.bin .FloorDiv (.var 2) (.int 11)) (.var 1))) .nil)
def b__law_draw_1 : Sts := (.cons (.asg 2 (.bw [0] [1, 2, 3, 4] (.bin .Mod (.blt .int (.cons (.bin .Add (.bin .Mult (.ix (.var 0) (.int 3)) (.ix (.var 0) (.int 3))) (.ix (.var 0) (.int 3))) .nil)) (.int 2147483629)))) b__law_draw_0)
def b__law_draw_2 : Sts := (.cons (.set 0 (.int 3) (.bw [0] [1, 2, 3, 4] (.bin .Mod (.blt .int (.cons (.bin .Add (.bin .Mult (.ix (.var 0) (.int 3)) (.int 16807)) (.int 12345)) .nil)) (.int 2147483647)))) b__law_draw_1)
def b__law_draw_3 : Sts := (.cons (.iff (.bw [0] [1, 2, 3, 4] (.cmp .Gt (.ix (.var 0) (.int 2)) (.int 0))) (.cons (.asg 4 (.bw [0, 1] [2, 3, 4] (.bin .Mod (.blt .int (.cons (.ix (.var 0) (.int 2)) .nil)) (.var 1)))) (.cons (.set 0 (.int 2) (.bw [0, 1] [2, 3, 4] (.bin .FloorDiv (.ix (.var 0) (.int 2)) (.var 1)))) (.cons (.ret (.var 4)) .nil))) .nil) b__law_draw_2)
def b__law_draw_4 : Sts := (.cons (.iff (.bw [0] [1, 2, 3, 4] (.and (.cmp .Eq (.ix (.var 0) (.int 2)) (.int 0)) (.one (.cmp .Lt (.ix (.var 0) (.int 1)) (.blt .len (.cons (.ix (.var 0) (.int 0)) .nil)))))) (.cons (.asg 3 (.bw [0] [1, 2, 3, 4] (.blt .abs (.cons (.blt .int (.cons (.ix (.ix (.var 0) (.int 0)) (.ix (.var 0) (.int 1))) .nil)) .nil)))) (.cons (.augS 0 .Add (.int 1) (.int 1)) (.cons (.iff (.cmp .GtE (.var 3) (.bin .Pow (.int 10) (.int 18))) (.cons (.set 0 (.int 2) (.var 3)) .nil) (.cons (.set 0 (.int 3) (.bw [0, 3] [1, 2, 4] (.bin .Mod (.blt .int (.cons (.bin .Add (.bin .Add (.bin .Mult (.ix (.var 0) (.int 3)) (.int 48271)) (.bin .Mult (.var 3) (.int 69621))) (.ix (.var 0) (.int 1))) .nil)) (.int 2147483647)))) .nil)) .nil))) .nil) b__law_draw_3)
def bod__law_draw : Sts := b__law_draw_4
def rho__law_draw : Rho := fun _ _ => .bad
def den__law_draw : Den := runB 2 5 [0] (exs rho__law_draw [0] bod__law_draw)
def tab__law_same : Tab := ⟨["actual", "due", "k"], [("_law_same", 2)], ["isinstance", "bool", "int", "str", "tuple", "list", "all", "range", "len"], [], [], [], []⟩
def b__law_same_0 : Sts := (.cons (.ret (.and (.isi (.var 0) .int) (.and (.not (.isi (.var 0) .bool)) (.one (.cmp .Eq (.var 0) (.var 1)))))) .nil)
def b__law_same_1 : Sts := (.cons (.iff (.isi (.var 1) .str) (.cons (.ret (.and (.isi (.var 0) .str) (.one (.cmp .Eq (.var 0) (.var 1))))) .nil) .nil) b__law_same_0)
def b__law_same_2 : Sts := (.cons (.iff (.or (.cmp .Is (.var 1) .non) (.one (.isi (.var 1) .bool))) (.cons (.ret (.ite (.cmp .Is (.var 1) .non) (.cmp .Is (.var 0) .non) (.and (.isi (.var 0) .bool) (.one (.cmp .Eq (.var 0) (.var 1)))))) .nil) .nil) b__law_same_1)
def b__law_same_3 : Sts := (.cons (.iff (.or (.isi (.var 1) .list) (.one (.isi (.var 1) .tuple))) (.cons (.iff (.or (.cmp .NotEq (.isi (.var 0) .list) (.isi (.var 1) .list)) (.one (.cmp .NotEq (.isi (.var 0) .tuple) (.isi (.var 1) .tuple)))) (.cons (.ret (.bl false)) .nil) .nil) (.cons (.ret (.and (.cmp .Eq (.blt .len (.cons (.var 0) .nil)) (.blt .len (.cons (.var 1) .nil))) (.one (.blt .all (.cons (.lc (.call 0 (.e (.ix (.var 0) (.var 2)) (.e (.ix (.var 1) (.var 2)) .nil))) (.nm 2) (.r1 (.blt .len (.cons (.var 1) .nil))) .no [2]) .nil))))) .nil)) .nil) b__law_same_2)
def bod__law_same : Sts := b__law_same_3
def rho__law_same (d : Den) : Rho := fun f => match f with
  | 0 => d
  | _ => fun _ => .bad
def denS__law_same (d : Den) : Den := runB 2 3 [] (exs (rho__law_same d) [] bod__law_same)
def den__law_same : Den := fixD denS__law_same 8
def tab__law_text : Tab := ⟨["feed", "most", "size", "letters", "text", "k"], [("_law_draw", 2)], ["len", "range"], [], [], [], []⟩
def b__law_text_0 : Sts := (.cons (.ret (.var 4)) .nil)
def b__law_text_1 : Sts := (.cons (.iff (.and (.cmp .Gt (.var 2) (.int 1)) (.one (.cmp .Eq (.call 0 (.o 0 (.e (.int 2) .nil))) (.int 0)))) (.cons (.asg 4 (.slc (.bin .Mult (.slc (.var 4) .no (.yes (.bin .Add (.int 1) (.call 0 (.o 0 (.e (.var 2) .nil)))))) (.var 2)) .no (.yes (.var 2)))) .nil) .nil) b__law_text_0)
def b__law_text_2 : Sts := (.cons (.asg 4 (.mt .join (.str "") (.lc (.ix (.var 3) (.call 0 (.o 0 (.e (.blt .len (.cons (.var 3) .nil)) .nil)))) (.nm 5) (.r1 (.var 2)) .no [5]))) b__law_text_1)
def b__law_text_3 : Sts := (.cons (.asg 3 (.ix (.lst (.cons (.str "ab") (.cons (.str "abc") (.cons (.str "abcdefgh") (.cons (.str "a") .nil))))) (.ix (.lst (.cons (.int 0) (.cons (.int 0) (.cons (.int 1) (.cons (.int 1) (.cons (.int 2) (.cons (.int 3) .nil))))))) (.call 0 (.o 0 (.e (.int 6) .nil)))))) b__law_text_2)
def b__law_text_4 : Sts := (.cons (.iff (.cmp .Eq (.call 0 (.o 0 (.e (.int 8) .nil))) (.int 0)) (.cons (.asg 2 (.call 0 (.o 0 (.e (.bin .Add (.var 1) (.int 1)) .nil)))) .nil) .nil) b__law_text_3)
def b__law_text_5 : Sts := (.cons (.asg 2 (.call 0 (.o 0 (.e (.int 15) .nil)))) b__law_text_4)
def bod__law_text : Sts := b__law_text_5
def rho__law_text : Rho := fun f => match f with
  | 0 => den__law_draw
  | _ => fun _ => .bad
def den__law_text : Den := runB 2 6 [0] (exs rho__law_text [0] bod__law_text)
def tab__law_near : Tab := ⟨["text", "k", "n", "p", "wrong", "at"], [], ["range", "len"], [], [], [], []⟩
def b__law_near_0 : Sts := (.cons (.ret (.int 0)) .nil)
def b__law_near_1 : Sts := (.cons (.iff (.cmp .Eq (.var 4) (.int 0)) (.cons (.ret (.var 3)) .nil) .nil) .nil)
def b__law_near_2 : Sts := (.cons (.iff (.and (.cmp .GtE (.var 5) (.int 0)) (.and (.cmp .Lt (.bin .Add (.var 5) (.var 3)) (.var 2)) (.one (.cmp .NotEq (.ix (.var 0) (.var 5)) (.ix (.var 0) (.bin .Add (.var 5) (.var 3))))))) (.cons (.aug 4 .Add (.int 1)) .nil) .nil) .nil)
def b__law_near_3 : Sts := (.cons (.forr (.nm 5) (.r2 (.bin .Sub (.var 1) (.var 3)) (.var 1)) b__law_near_2) b__law_near_1)
def b__law_near_4 : Sts := (.cons (.asg 4 (.int 0)) b__law_near_3)
def b__law_near_5 : Sts := (.cons (.forr (.nm 3) (.r2 (.int 1) (.bin .Add (.var 2) (.int 1))) b__law_near_4) b__law_near_0)
def b__law_near_6 : Sts := (.cons (.asg 2 (.blt .len (.cons (.var 0) .nil))) b__law_near_5)
def bod__law_near : Sts := b__law_near_6
def rho__law_near : Rho := fun _ _ => .bad
def den__law_near : Den := runB 2 6 [] (exs rho__law_near [] bod__law_near)
def tab__law_least_period : Tab := ⟨["text", "p"], [], ["len", "range"], [], [], [], []⟩
def b__law_least_period_0 : Sts := (.cons (.ret (.blt .len (.cons (.var 0) .nil))) .nil)
def b__law_least_period_1 : Sts := (.cons (.iff (.cmp .Eq (.slc (.var 0) (.yes (.var 1)) .no) (.slc (.var 0) .no (.yes (.neg (.var 1))))) (.cons (.ret (.var 1)) .nil) .nil) .nil)
def b__law_least_period_2 : Sts := (.cons (.forr (.nm 1) (.r2 (.int 1) (.blt .len (.cons (.var 0) .nil))) b__law_least_period_1) b__law_least_period_0)
def bod__law_least_period : Sts := b__law_least_period_2
def rho__law_least_period : Rho := fun _ _ => .bad
def den__law_least_period : Den := runB 1 2 [] (exs rho__law_least_period [] bod__law_least_period)
def tab__law_right : Tab := ⟨["feed", "text", "n", "due", "least", "breaks", "turn", "k", "told", "begin"], [("_law_least_period", 1), ("_law_near", 2), ("near_periods", 1), ("breaks_at", 1), ("_law_same", 2), ("_law_draw", 2), ("near_period", 2)], ["range", "len", "max"], [], [], [], []⟩
def b__law_right_0 : Sts := (.cons (.ret (.bl true)) .nil)
def b__law_right_1 : Sts := (.cons (.iff (.cmp .Eq (.blt .len (.cons (.lc (.var 7) (.nm 7) (.e (.var 5)) (.yes (.chain .LtE .Lt (.var 9) (.var 7) (.bin .Sub (.bin .Add (.var 9) (.var 4)) (.int 1)))) [7]) .nil)) (.int 0)) (.cons (.ret (.bl false)) .nil) .nil) .nil)
def b__law_right_2 : Sts := (.cons (.iff (.cmp .Gt (.var 4) (.int 1)) (.cons (.forr (.nm 9) (.r2 (.int 1) (.bin .Add (.bin .Sub (.var 2) (.var 4)) (.int 2))) b__law_right_1) .nil) .nil) b__law_right_0)
def b__law_right_3 : Sts := (.cons (.iff (.or (.cmp .NotEq (.blt .max (.cons (.var 3) .nil)) (.var 4)) (.one (.cmp .Eq (.blt .len (.cons (.var 5) .nil)) (.int 0)))) (.cons (.ret (.bl false)) .nil) .nil) b__law_right_2)
def b__law_right_4 : Sts := (.cons (.iff (.not (.call 4 (.e (.call 6 (.e (.var 1) (.e (.var 7) .nil))) (.e (.ix (.var 3) (.bin .Sub (.var 7) (.int 1))) .nil)))) (.cons (.ret (.bl false)) .nil) .nil) .nil)
def b__law_right_5 : Sts := (.cons (.forr (.nm 7) (.e (.lst (.cons (.int 1) (.cons (.bin .Sub (.var 2) (.int 1)) (.cons (.bin .Add (.int 1) (.call 5 (.o 0 (.e (.bin .Sub (.var 2) (.int 1)) .nil)))) .nil))))) b__law_right_4) b__law_right_3)
def b__law_right_6 : Sts := (.cons (.expr (.appN 8 1 (.int 0))) .nil)
def b__law_right_7 : Sts := (.cons (.expr (.appN 8 0 (.int 0))) b__law_right_6)
def b__law_right_8 : Sts := (.cons (.iff (.bw [3, 5, 8] [0, 1, 2, 4, 6, 7, 9] (.not (.call 4 (.e (.var 8) (.e (.lst (.cons (.var 3) (.cons (.var 5) .nil))) .nil))))) (.cons (.ret (.bl false)) .nil) .nil) b__law_right_7)
def b__law_right_9 : Sts := (.cons (.asg 8 (.lst (.cons (.call 2 (.e (.var 1) .nil)) (.cons (.call 3 (.e (.var 1) .nil)) .nil)))) b__law_right_8)
def b__law_right_10 : Sts := (.cons (.forr (.nm 6) (.r1 (.int 2)) b__law_right_9) b__law_right_5)
def b__law_right_11 : Sts := (.cons (.asg 5 (.lc (.var 7) (.nm 7) (.r2 (.int 1) (.var 2)) (.yes (.cmp .Eq (.ix (.var 3) (.bin .Sub (.var 7) (.int 1))) (.var 4))) [7])) b__law_right_10)
def b__law_right_12 : Sts := (.cons (.asg 4 (.call 0 (.e (.var 1) .nil))) b__law_right_11)
def b__law_right_13 : Sts := (.cons (.asg 3 (.lc (.call 1 (.e (.var 1) (.e (.var 7) .nil))) (.nm 7) (.r2 (.int 1) (.var 2)) .no [7])) b__law_right_12)
def b__law_right_14 : Sts := (.cons (.asg 2 (.blt .len (.cons (.var 1) .nil))) b__law_right_13)
def bod__law_right : Sts := b__law_right_14
def rho__law_right : Rho := fun f => match f with
  | 0 => den__law_least_period
  | 1 => den__law_near
  | 2 => den_near_periods
  | 3 => den_breaks_at
  | 4 => den__law_same
  | 5 => den__law_draw
  | 6 => den_near_period
  | _ => fun _ => .bad
def den__law_right : Den := runB 2 10 [0] (exs rho__law_right [0] bod__law_right)
def tab_law : Tab := ⟨["script", "feed", "turn", "text", "short", "many", "own"], [("_law_feed", 1), ("_law_same", 2), ("near_periods", 1), ("breaks_at", 1), ("near_period", 2), ("_law_right", 2), ("_law_text", 2), ("_law_draw", 2)], ["range"], [], [], [], []⟩
def b_law_0 : Sts := (.cons (.ret (.call 1 (.e (.lst (.cons (.call 2 (.e (.str "aaa") .nil)) (.cons (.call 3 (.e (.str "ab") .nil)) (.cons (.call 4 (.e (.str "aab") (.e (.int 1) .nil))) .nil)))) (.e (.lst (.cons (.lst (.cons (.int 1) (.cons (.int 1) .nil))) (.cons (.lst (.cons (.int 1) .nil)) (.cons (.int 1) .nil)))) .nil)))) .nil)
def b_law_1 : Sts := (.cons (.iff (.not (.call 1 (.e (.lst (.cons (.call 2 (.e (.str "abaab") .nil)) (.cons (.call 3 (.e (.str "abaab") .nil)) .nil))) (.e (.lst (.cons (.lst (.cons (.int 2) (.cons (.int 3) (.cons (.int 1) (.cons (.int 3) .nil))))) (.cons (.lst (.cons (.int 2) (.cons (.int 4) .nil))) .nil))) .nil)))) (.cons (.ret (.bl false)) .nil) .nil) b_law_0)
def b_law_2 : Sts := (.cons (.iff (.not (.call 5 (.o 1 (.e (.var 6) .nil)))) (.cons (.ret (.bl false)) .nil) .nil) .nil)
def b_law_3 : Sts := (.cons (.forr (.nm 6) (.e (.lst (.cons (.var 3) (.cons (.rev (.var 3)) (.cons (.var 5) (.cons (.var 4) .nil)))))) b_law_2) .nil)
def b_law_4 : Sts := (.cons (.asg 5 (.slc (.bin .Mult (.var 4) (.int 30)) .no (.yes (.bin .Add (.int 2) (.call 7 (.o 1 (.e (.int 24) .nil))))))) b_law_3)
def b_law_5 : Sts := (.cons (.asg 4 (.slc (.var 3) .no (.yes (.bin .Add (.int 2) (.call 7 (.o 1 (.e (.int 5) .nil))))))) b_law_4)
def b_law_6 : Sts := (.cons (.asg 3 (.slc (.bin .Add (.bin .Add (.call 6 (.o 1 (.e (.int 58) .nil))) (.ix (.str "abc") (.call 7 (.o 1 (.e (.int 3) .nil))))) (.ix (.str "ab") (.call 7 (.o 1 (.e (.int 2) .nil))))) .no (.yes (.int 60)))) b_law_5)
def b_law_7 : Sts := (.cons (.forr (.nm 2) (.r1 (.int 4)) b_law_6) b_law_1)
def b_law_8 : Sts := (.cons (.asg 1 (.call 0 (.o 0 .nil))) b_law_7)
def bod_law : Sts := b_law_8
def rho_law : Rho := fun f => match f with
  | 0 => den__law_feed
  | 1 => den__law_same
  | 2 => den_near_periods
  | 3 => den_breaks_at
  | 4 => den_near_period
  | 5 => den__law_right
  | 6 => den__law_text
  | 7 => den__law_draw
  | _ => fun _ => .bad
def den_law : Den := runB 1 7 [0] (exs rho_law [0] bod_law)
end K17

set_option Elab.async false
set_option linter.all false
set_option maxRecDepth 100000
/-! K17M: where texts break (critical places), in plain Lean. -/
namespace K17
/-- the suffix at i is less than the one at j: a beginning of it, or less at the first place where they differ -/
def SL (lt : Nat → Nat → Prop) (w : Nat → Nat) (n i j : Nat) : Prop := ∃ m, (∀ t, t < m → w (i + t) = w (j + t)) ∧ j + m < n ∧ (i + m = n ∨ (i + m < n ∧ lt (w (i + m)) (w (j + m))))
structure Ord (lt : Nat → Nat → Prop) : Prop where
  irr : ∀ a, ¬ lt a a
  tr : ∀ a b c, lt a b → lt b c → lt a c
  tri : ∀ a b, a ≠ b → lt a b ∨ lt b a
theorem Ord.lt : Ord (· < ·) := ⟨fun a => Nat.lt_irrefl a, fun _ _ _ => Nat.lt_trans, fun a b h => Nat.lt_or_gt_of_ne h⟩
theorem Ord.gt : Ord (· > ·) := ⟨fun a => Nat.lt_irrefl a, fun _ _ _ h1 h2 => Nat.lt_trans h2 h1, fun a b h => (Nat.lt_or_gt_of_ne h).symm⟩
section
variable {lt : Nat → Nat → Prop} {w : Nat → Nat} {n : Nat}
theorem SL.asymm (o : Ord lt) {i j : Nat} (h : SL lt w n i j) (h' : SL lt w n j i) : False := by
  obtain ⟨m, e, l, c⟩ := h
  obtain ⟨m', e', l', c'⟩ := h'
  rcases Nat.lt_trichotomy m m' with q | q | q
  · have := e' m q
    rcases c with c | ⟨_, c⟩
    · omega
    · rw [this] at c; exact o.irr _ c
  · subst q
    rcases c with c | ⟨_, c⟩
    · omega
    · rcases c' with c' | ⟨_, c'⟩
      · omega
      · exact o.irr _ (o.tr _ _ _ c c')
  · have := e m' q
    rcases c' with c' | ⟨_, c'⟩
    · omega
    · rw [this] at c'; exact o.irr _ c'
theorem SL.trans (o : Ord lt) {i j k : Nat} (h : SL lt w n i j) (h' : SL lt w n j k) : SL lt w n i k := by
  obtain ⟨m, e, l, c⟩ := h
  obtain ⟨m', e', l', c'⟩ := h'
  rcases Nat.lt_trichotomy m m' with q | q | q
  · refine ⟨m, fun t ht => (e t ht).trans (e' t (by omega)), by omega, ?_⟩
    rcases c with c | ⟨d, c⟩
    · exact Or.inl c
    · exact Or.inr ⟨d, by rw [← e' m q]; exact c⟩
  · subst q
    refine ⟨m, fun t ht => (e t ht).trans (e' t ht), l', ?_⟩
    rcases c with c | ⟨d, c⟩
    · exact Or.inl c
    · rcases c' with c' | ⟨_, c'⟩
      · omega
      · exact Or.inr ⟨d, o.tr _ _ _ c c'⟩
  · refine ⟨m', fun t ht => (e t (by omega)).trans (e' t ht), l', ?_⟩
    rcases c' with c' | ⟨_, c'⟩
    · omega
    · rcases c with c | ⟨d, c⟩
      · exact Or.inr ⟨by omega, by rw [e m' q]; exact c'⟩
      · exact Or.inr ⟨by omega, by rw [e m' q]; exact c'⟩
theorem first_unlike (p : Nat → Prop) [DecidablePred p] : ∀ b, (∀ t, t < b → p t) ∨ ∃ m, m < b ∧ (∀ t, t < m → p t) ∧ ¬ p m
  | 0 => Or.inl fun t h => absurd h (Nat.not_lt_zero _)
  | b + 1 => by
    rcases first_unlike p b with h | ⟨m, h1, h2, h3⟩
    · by_cases q : p b
      · exact Or.inl fun t ht => (Nat.lt_succ_iff_lt_or_eq.mp ht).elim (h t) fun e => e ▸ q
      · exact Or.inr ⟨b, Nat.lt_succ_self _, h, q⟩
    · exact Or.inr ⟨m, Nat.lt_succ_of_lt h1, h2, h3⟩
theorem SL.tri (o : Ord lt) {i j : Nat} (hi : i < n) (hj : j < n) (h : i ≠ j) : SL lt w n i j ∨ SL lt w n j i := by
  rcases first_unlike (fun t => w (i + t) = w (j + t)) (min (n - i) (n - j)) with h1 | ⟨m, h1, h2, h3⟩
  · rcases Nat.lt_or_gt_of_ne h with q | q
    · exact Or.inr ⟨n - j, fun t ht => (h1 t (by omega)).symm, by omega, Or.inl (by omega)⟩
    · exact Or.inl ⟨n - i, fun t ht => h1 t (by omega), by omega, Or.inl (by omega)⟩
  · rcases o.tri _ _ h3 with q | q
    · exact Or.inl ⟨m, h2, by omega, Or.inr ⟨by omega, q⟩⟩
    · exact Or.inr ⟨m, fun t ht => (h2 t ht).symm, by omega, Or.inr ⟨by omega, q⟩⟩
/-- what both begin with goes -/
theorem SL.strip (o : Ord lt) {i j a : Nat} (h : SL lt w n i j) (he : ∀ t, t < a → w (i + t) = w (j + t)) (hi : i + a ≤ n) : SL lt w n (i + a) (j + a) := by
  obtain ⟨m, e, l, c⟩ := h
  have ham : a ≤ m := by
    rcases Nat.lt_or_ge m a with q | q
    · rcases c with c | ⟨_, c⟩
      · omega
      · rw [he m q] at c; exact (o.irr _ c).elim
    · exact q
  refine ⟨m - a, fun t ht => ?_, by omega, ?_⟩
  · have := e (a + t) (by omega)
    rw [← Nat.add_assoc, ← Nat.add_assoc] at this
    exact this
  · have e1 : i + a + (m - a) = i + m := by omega
    have e2 : j + a + (m - a) = j + m := by omega
    rw [e1, e2]; exact c
/-- less by the one order and by its mirror: a beginning -/
theorem SL.pre {i j : Nat} (h : SL (· < ·) w n i j) (h' : SL (· > ·) w n i j) : j ≤ i ∧ ∀ t, i + t < n → w (i + t) = w (j + t) := by
  obtain ⟨m, e, l, c⟩ := h
  obtain ⟨m', e', l', c'⟩ := h'
  have hm : i + m = n ∨ i + m' = n := by
    rcases c with c | ⟨_, c⟩
    · exact Or.inl c
    · rcases c' with c' | ⟨_, c'⟩
      · exact Or.inr c'
      · rcases Nat.lt_trichotomy m m' with q | q | q
        · have := e' m q; omega
        · subst q; omega
        · have := e m' q; omega
  rcases hm with q | q
  · exact ⟨by omega, fun t ht => e t (by omega)⟩
  · exact ⟨by omega, fun t ht => e' t (by omega)⟩
/-- the greatest suffix of those that begin at c or later -/
def Mx (lt : Nat → Nat → Prop) (w : Nat → Nat) (n c k : Nat) : Prop := c ≤ k ∧ k < n ∧ ∀ i, c ≤ i → i < n → i ≠ k → SL lt w n i k
theorem mx_ex (o : Ord lt) : ∀ d c, c + d + 1 = n → ∃ k, Mx lt w n c k
  | 0, c, h => ⟨c, Nat.le_refl _, by omega, fun i h1 h2 h3 => by omega⟩
  | d + 1, c, h => by
    obtain ⟨k, k1, k2, k3⟩ := mx_ex o d (c + 1) (by omega)
    rcases SL.tri (w := w) (n := n) o (i := k) (j := c) k2 (by omega) (by omega) with q | q
    · refine ⟨c, Nat.le_refl _, by omega, fun i h1 h2 h3 => ?_⟩
      by_cases e : i = k
      · subst e; exact q
      · exact (k3 i (by omega) h2 e).trans o q
    · refine ⟨k, by omega, k2, fun i h1 h2 h3 => ?_⟩
      by_cases e : i = c
      · subst e; exact q
      · exact k3 i (by omega) h2 h3
theorem Mx.uniq (o : Ord lt) {c k k' : Nat} (h : Mx lt w n c k) (h' : Mx lt w n c k') : k = k' := by
  by_cases e : k = k'
  · exact e
  · exact ((h.2.2 k' h'.1 h'.2.1 (fun z => e z.symm)).asymm o (h'.2.2 k h.1 h.2.1 e)).elim
theorem Mx.later {c d k : Nat} (h : Mx lt w n c k) (hd : c ≤ d) (hk : d ≤ k) : Mx lt w n d k := ⟨hk, h.2.1, fun i h1 h2 h3 => h.2.2 i (by omega) h2 h3⟩
/-- r is a period from x on -/
def PF (w : Nat → Nat) (n x r : Nat) : Prop := ∀ i, x ≤ i → i + r < n → w i = w (i + r)
/-- near the place k, r goes -/
def Loc (w : Nat → Nat) (n k r : Nat) : Prop := ∀ i, k - r ≤ i → i < k → i + r < n → w i = w (i + r)
/-- at the start of the greatest suffix by both orders, what goes near is a period from there on -/
theorem near_per {lt gt : Nat → Nat → Prop} (o : Ord lt) (o' : Ord gt) (hp : ∀ i j, SL lt w n i j → SL gt w n i j → j ≤ i ∧ ∀ t, i + t < n → w (i + t) = w (j + t)) {c k k' r : Nat} (h : Mx lt w n c k) (h' : Mx gt w n c k') (hk : k' ≤ k) (hr : 1 ≤ r) (hl : Loc w n k r) : k < c + r ∧ PF w n (k - r) r := by
  obtain ⟨c1, k2, k3⟩ := h
  obtain ⟨c1', k2', k3'⟩ := h'
  have first : k < c + r := by
    rcases Nat.lt_or_ge k (c + r) with q | q
    · exact q
    · exfalso
      have s := k3 (k - r) (by omega) (by omega) (by omega)
      obtain ⟨m, e, l, cc⟩ := s
      rcases Nat.lt_or_ge m r with z | z
      · have := hl (k - r + m) (by omega) (by omega) (by omega)
        rw [show k - r + m + r = k + m by omega] at this
        rcases cc with cc | ⟨_, cc⟩
        · omega
        · rw [this] at cc; exact o.irr _ cc
      · have s := SL.strip (a := r) o ⟨m, e, l, cc⟩ (fun t ht => e t (by omega)) (by omega)
        rw [show k - r + r = k by omega] at s
        exact s.asymm o (k3 (k + r) (by omega) (by omega) (by omega))
  refine ⟨first, fun i h1 h2 => ?_⟩
  rcases Nat.lt_or_ge i k with q | q
  · exact hl i h1 q h2
  · have s1 := k3 (k + r) (by omega) (by omega) (by omega)
    have s2 := k3' (k' + r) (by omega) (by omega) (by omega)
    have s3 := SL.strip (a := k - k') o' s2 (fun t ht => by
      have := hl (k' + t) (by omega) (by omega) (by omega)
      rw [show k' + r + t = k' + t + r by omega]; exact this.symm) (by omega)
    rw [show k' + r + (k - k') = k + r by omega, show k' + (k - k') = k by omega] at s3
    have := (hp _ _ s1 s3).2 (i - k) (by omega)
    rw [show k + r + (i - k) = i + r by omega, show k + (i - k) = i by omega] at this
    exact this.symm
theorem steps {x q i : Nat} (h : PF w n x q) (hi : x ≤ i) : ∀ e, i + q * e < n → w i = w (i + q * e)
  | 0, _ => rfl
  | e + 1, hn => by
    have hn' : i + q * e + q < n := by rw [Nat.mul_succ] at hn; omega
    rw [steps h hi e (by omega), h (i + q * e) (by omega) hn', Nat.mul_succ, Nat.add_assoc]
/-- a period from x on that divides the whole's is one of the whole -/
theorem back_per {p q e x : Nat} (hp : PF w n 0 p) (hq : PF w n x q) (he : p = q * e) (hq1 : 1 ≤ q) (hp1 : 1 ≤ p) (hx : x + p ≤ n) : ∀ d, PF w n (x - d) q
  | 0 => hq
  | d + 1 => fun i h1 h2 => by
    have ih := back_per hp hq he hq1 hp1 hx d
    by_cases z : x - d ≤ i
    · exact ih i z h2
    · obtain ⟨e', rfl⟩ : ∃ e', e = e' + 1 := by
        cases e with
        | zero => exfalso; omega
        | succ e => exact ⟨e, rfl⟩
      have hpq : p = q + q * e' := by rw [he, Nat.mul_succ]; omega
      have a := hp i (Nat.zero_le _) (by omega)
      have b := steps ih (i := i + q) (by omega) e' (by omega)
      rw [a, b, Nat.add_assoc, ← hpq]
end
/-- a least number, if any -/
theorem least_ex (P : Nat → Prop) [DecidablePred P] {m : Nat} (h : P m) : ∃ k, k ≤ m ∧ P k ∧ ∀ j, j < k → ¬ P j := by
  induction m using Nat.strongRecOn with
  | ind m ih =>
    by_cases q : ∃ j, j < m ∧ P j
    · obtain ⟨j, h1, h2⟩ := q
      obtain ⟨k, k1, k2, k3⟩ := ih j h1 h2
      exact ⟨k, by omega, k2, k3⟩
    · exact ⟨m, Nat.le_refl _, h, fun j hj hp => q ⟨j, hj, hp⟩⟩
/-- the place c + 1 from where on the greatest suffixes begin beyond c: there the whole's least period is the least near it -/
theorem brk {lt gt : Nat → Nat → Prop} {w : Nat → Nat} {n : Nat} (o : Ord lt) (o' : Ord gt) (hp : ∀ i j, SL lt w n i j → SL gt w n i j → j ≤ i ∧ ∀ t, i + t < n → w (i + t) = w (j + t))
    {p c c0 k k' r : Nat} (hper : PF w n 0 p) (hp1 : 1 ≤ p) (hle : ∀ q, 1 ≤ q → q < p → ¬ PF w n 0 q) (hc0 : c0 ≤ c) (hc : c + p ≤ n) (h : Mx lt w n c0 k) (h' : Mx gt w n c0 k') (hk : k' ≤ k) (hck : c < k)
    (hx : ∀ x, x + 1 = c0 → ∃ s s', Mx lt w n x s ∧ Mx gt w n x s' ∧ s ≤ c ∧ s' ≤ c) (hr : 1 ≤ r) (hrp : r < p) (hl : Loc w n k r) : False := by
  obtain ⟨f1, f2⟩ := near_per o o' hp h h' hk hr hl
  cases c0 with
  | zero => rw [show k - r = 0 by omega] at f2; exact hle r hr hrp f2
  | succ x =>
    obtain ⟨s, s', ms, ms', sc, sc'⟩ := hx x rfl
    have es : s = x := by
      by_cases e : s = x
      · exact e
      · have := (ms.later (d := x + 1) (by omega) (by have := ms.1; omega)).uniq o h
        omega
    subst es
    have pr : PF w n s r := fun i h1 h2 => f2 i (by omega) h2
    classical
    obtain ⟨q, q1, ⟨q2, q3⟩, q4⟩ := least_ex (fun q => 1 ≤ q ∧ PF w n s q) (m := r) ⟨hr, pr⟩
    have q4 : ∀ j, 1 ≤ j → j < q → ¬ PF w n s j := fun j h1 h2 h3 => q4 j h2 ⟨h1, h3⟩
    have hdm := Nat.div_add_mod p q
    have hml := Nat.mod_lt p (show 0 < q by omega)
    by_cases z : p % q = 0
    · rw [z, Nat.add_zero] at hdm
      have := back_per hper q3 hdm.symm q2 hp1 (show s + p ≤ n by omega) s
      rw [Nat.sub_self] at this
      exact hle q q2 (by omega) this
    · generalize hth : p % q = θ at hdm hml z
      generalize p / q = e at hdm
      obtain ⟨m1, m2, m3⟩ := ms'
      have hy : ∀ t, t < s' - s → w (s + θ + t) = w (s + t) := fun t ht => by
        have a := steps q3 (i := s + θ + t) (by omega) e (by omega)
        have b := hper (s + t) (Nat.zero_le _) (by omega)
        rw [a, b]; congr 1; omega
      have s1 := ms.2.2 (s + θ) (by omega) (by omega) (by omega)
      have s2 := SL.strip (a := s' - s) o s1 hy (by omega)
      have s3 := m3 (s + θ + (s' - s)) (by omega) (by omega) (by omega)
      rw [show s + (s' - s) = s' by omega] at s2
      have pre := (hp _ _ s2 s3).2
      refine q4 θ (by omega) hml fun i h1 h2 => ?_
      rcases Nat.lt_or_ge i s' with g | g
      · have := hy (i - s) (by omega)
        rw [show s + θ + (i - s) = i + θ by omega, show s + (i - s) = i by omega] at this
        exact this.symm
      · have := pre (i - s') (by omega)
        rw [show s + θ + (s' - s) + (i - s') = i + θ by omega, show s' + (i - s') = i by omega] at this
        exact this.symm
/-- the theorem: among the p - 1 places behind c one breaks -/
theorem window {w : Nat → Nat} {n p c : Nat} (hper : PF w n 0 p) (hp2 : 2 ≤ p) (hle : ∀ q, 1 ≤ q → q < p → ¬ PF w n 0 q) (hc : c + p ≤ n) : ∃ k, c < k ∧ k < c + p ∧ ∀ r, 1 ≤ r → r < p → ¬ Loc w n k r := by
  classical
  have ex : ∀ x, x < n → ∃ s s', Mx (· < ·) w n x s ∧ Mx (· > ·) w n x s' := fun x hx => by
    obtain ⟨s, hs⟩ := mx_ex (w := w) (n := n) Ord.lt (n - x - 1) x (by omega)
    obtain ⟨s', hs'⟩ := mx_ex (w := w) (n := n) Ord.gt (n - x - 1) x (by omega)
    exact ⟨s, s', hs, hs'⟩
  have hi : ∀ {lt : Nat → Nat → Prop} (o : Ord lt) x s, x + p ≤ n → Mx lt w n x s → s < x + p := fun o x s hx hs => by
    rcases Nat.lt_or_ge s (x + p) with q | q
    · exact q
    · exfalso
      obtain ⟨m, e, l, cc⟩ := hs.2.2 (s - p) (by omega) (by have := hs.2.1; omega) (by omega)
      have a := hper (s - p + m) (Nat.zero_le _) (by omega)
      rw [show s - p + m + p = s + m by omega] at a
      rcases cc with cc | ⟨_, cc⟩
      · omega
      · rw [a] at cc; exact o.irr _ cc
  let P : Nat → Prop := fun x => ∃ s s', Mx (· < ·) w n x s ∧ Mx (· > ·) w n x s' ∧ (c < s ∨ c < s')
  have hP : P c := by
    obtain ⟨s, s', hs, hs'⟩ := ex c (by omega)
    refine ⟨s, s', hs, hs', ?_⟩
    by_cases z : c < s ∨ c < s'
    · exact z
    · exfalso
      have e1 : s = c := by have := hs.1; omega
      have e2 : s' = c := by have := hs'.1; omega
      subst e1; subst e2
      have pre := (SL.pre (hs.2.2 (s' + 1) (by omega) (by omega) (by omega)) (hs'.2.2 (s' + 1) (by omega) (by omega) (by omega))).2
      have one : PF w n s' 1 := fun i h1 h2 => by
        have := pre (i - s') (by omega)
        rw [show s' + 1 + (i - s') = i + 1 by omega, show s' + (i - s') = i by omega] at this
        exact this.symm
      have := back_per hper one (e := p) (by omega) (by omega) (by omega) hc s'
      rw [Nat.sub_self] at this
      exact hle 1 (by omega) (by omega) this
  obtain ⟨c0, h0, ⟨s, s', hs, hs', hcs⟩, hmin⟩ := least_ex P hP
  have hx : ∀ x, x + 1 = c0 → ∃ s s', Mx (· < ·) w n x s ∧ Mx (· > ·) w n x s' ∧ s ≤ c ∧ s' ≤ c := fun x e => by
    obtain ⟨s, s', hs, hs'⟩ := ex x (by omega)
    have := hmin x (by omega)
    refine ⟨s, s', hs, hs', ?_, ?_⟩
    · rcases Nat.lt_or_ge c s with q | q
      · exact (this ⟨s, s', hs, hs', Or.inl q⟩).elim
      · exact q
    · rcases Nat.lt_or_ge c s' with q | q
      · exact (this ⟨s, s', hs, hs', Or.inr q⟩).elim
      · exact q
  have u1 := hi Ord.lt c0 s (by omega) hs
  have u2 := hi Ord.gt c0 s' (by omega) hs'
  rcases Nat.lt_or_ge s s' with q | q
  · refine ⟨s', by omega, by omega, fun r hr hrp hl => ?_⟩
    exact brk (lt := (· > ·)) (gt := (· < ·)) Ord.gt Ord.lt (fun i j h1 h2 => SL.pre h2 h1) hper (by omega) hle h0 hc hs' hs (by omega) (by omega) (fun x e => by
      obtain ⟨a, b, h1, h2, h3, h4⟩ := hx x e
      exact ⟨b, a, h2, h1, h4, h3⟩) hr hrp hl
  · refine ⟨s, by omega, by omega, fun r hr hrp hl => ?_⟩
    exact brk Ord.lt Ord.gt (fun i j h1 h2 => SL.pre h1 h2) hper (by omega) hle h0 hc hs hs' (by omega) (by omega) hx hr hrp hl
end K17

set_option Elab.async false
set_option linter.all false
set_option maxRecDepth 100000
set_option maxHeartbeats 4000000
namespace K17
open PySem Vi L2
theorem dr_eq : Vi.den__law_draw = den__law_draw := rfl
theorem te_eq : Vi.den__law_text = den__law_text := rfl
theorem sa_eq : Vi.den__law_same = den__law_same := rfl
/-! what is told -/
def perB (l : List Nat) (p : Nat) : Bool := decide (l.drop p = l.take (l.length - p))
def locB (l : List Nat) (k p : Nat) : Bool := (upF (k - p) (min k (l.length - p))).all fun i => decide (sg l i = sg l (i + p))
def leastV (l : List Nat) : Nat := ((upF 1 (l.length + 1)).find? (perB l)).getD 0
def nearV (l : List Nat) (k : Nat) : Nat := ((upF 1 (l.length + 1)).find? (locB l k)).getD 0
theorem perB_iff {l : List Nat} {p : Nat} (hp : p ≤ l.length) : perB l p = true ↔ PF (sg l) l.length 0 p := by
  unfold perB
  rw [decide_eq_true_iff]
  constructor
  · intro h i _ hi
    have := congrArg (fun x => x[i]?) h
    simp only [List.getElem?_drop, List.getElem?_take] at this
    rw [if_pos (by omega)] at this
    unfold sg
    rw [List.getD_eq_getElem?_getD, List.getD_eq_getElem?_getD, ← this, Nat.add_comm]
  · intro h
    apply List.ext_getElem?
    intro i
    simp only [List.getElem?_drop, List.getElem?_take]
    by_cases q : i < l.length - p
    · rw [if_pos q]
      have := h i (Nat.zero_le _) (by omega)
      unfold sg at this
      rw [List.getD_eq_getElem?_getD, List.getD_eq_getElem?_getD, List.getElem?_eq_getElem (show i < l.length by omega), List.getElem?_eq_getElem (show i + p < l.length by omega)] at this
      rw [List.getElem?_eq_getElem (show p + i < l.length by omega), List.getElem?_eq_getElem (show i < l.length by omega)]
      simp only [Option.getD_some] at this
      rw [this]
      congr 2; omega
    · rw [if_neg q, List.getElem?_eq_none (by omega)]
theorem locB_iff {l : List Nat} {k p : Nat} : locB l k p = true ↔ Loc (sg l) l.length k p := by
  unfold locB
  rw [List.all_eq_true]
  constructor
  · intro h i h1 h2 h3
    exact of_decide_eq_true (h i (mem_upF.mpr ⟨h1, by omega⟩))
  · intro h i hi
    have := mem_upF.mp hi
    exact decide_eq_true (h i this.1 (by omega) (by omega))
theorem find_up {p : Nat → Bool} : ∀ (d a : Nat), p (a + d) = true → ∃ m, ((List.range (d + 1)).map (a + ·)).find? p = some m ∧ a ≤ m ∧ m ≤ a + d ∧ p m = true ∧ ∀ j, a ≤ j → j < m → p j = false
  | 0, a, h => ⟨a, by simp [show p a = true from h], Nat.le_refl _, Nat.le_refl _, h, fun j h1 h2 => by omega⟩
  | d + 1, a, h => by
    by_cases q : p a = true
    · refine ⟨a, ?_, Nat.le_refl _, by omega, q, fun j h1 h2 => by omega⟩
      rw [List.range_succ_eq_map, List.map_cons, List.find?_cons_of_pos (by simpa using q)]; simp
    · obtain ⟨m, m1, m2, m3, m4, m5⟩ := find_up d (a + 1) (by rw [show a + 1 + d = a + (d + 1) by omega]; exact h)
      refine ⟨m, ?_, by omega, by omega, m4, fun j h1 h2 => ?_⟩
      · rw [List.range_succ_eq_map, List.map_cons, List.find?_cons_of_neg (by simpa using q), List.map_map]
        rw [← m1]; congr 2
        funext i; simp only [Function.comp_apply]; omega
      · by_cases e : j = a
        · subst e; exact Bool.eq_false_iff.mpr q
        · exact m5 j (by omega) h2
theorem find_upF {p : Nat → Bool} {n : Nat} (hn : 1 ≤ n) (h : p n = true) : ∃ m, (upF 1 (n + 1)).find? p = some m ∧ 1 ≤ m ∧ m ≤ n ∧ p m = true ∧ ∀ j, 1 ≤ j → j < m → p j = false := by
  obtain ⟨m, m1, m2, m3, m4, m5⟩ := find_up (p := p) (n - 1) 1 (by rw [show 1 + (n - 1) = n by omega]; exact h)
  refine ⟨m, ?_, m2, by omega, m4, m5⟩
  unfold upF
  rw [show n + 1 - 1 = n - 1 + 1 by omega]; exact m1
section
variable {l : List Nat} (hl : 1 ≤ l.length)
include hl
theorem least_spec : (upF 1 (l.length + 1)).find? (perB l) = some (leastV l) ∧ 1 ≤ leastV l ∧ leastV l ≤ l.length ∧ perB l (leastV l) = true ∧ ∀ j, 1 ≤ j → j < leastV l → perB l j = false := by
  obtain ⟨m, m1, m2⟩ := find_upF (p := perB l) hl (by unfold perB; simp)
  have e : leastV l = m := by unfold leastV; rw [m1]; rfl
  rw [e]; exact ⟨m1, m2⟩
theorem near_spec (k : Nat) : (upF 1 (l.length + 1)).find? (locB l k) = some (nearV l k) ∧ 1 ≤ nearV l k ∧ nearV l k ≤ l.length ∧ locB l k (nearV l k) = true ∧ ∀ j, 1 ≤ j → j < nearV l k → locB l k j = false := by
  obtain ⟨m, m1, m2⟩ := find_upF (p := locB l k) hl (locB_iff.mpr fun i _ _ h => by omega)
  have e : nearV l k = m := by unfold nearV; rw [m1]; rfl
  rw [e]; exact ⟨m1, m2⟩
theorem near_le (k : Nat) : nearV l k ≤ leastV l := by
  obtain ⟨_, a1, a2, a3, a4⟩ := least_spec hl
  obtain ⟨_, b1, b2, b3, b4⟩ := near_spec hl k
  rcases Nat.lt_or_ge (leastV l) (nearV l k) with q | q
  · have := b4 (leastV l) a1 q
    have h := (perB_iff a2).mp a3
    rw [locB_iff.mpr fun i _ _ h3 => h i (Nat.zero_le _) h3] at this
    cases this
  · exact q
theorem near_window {c : Nat} (h2 : 2 ≤ leastV l) (hc : c + leastV l ≤ l.length) : ∃ k, c < k ∧ k < c + leastV l ∧ nearV l k = leastV l := by
  obtain ⟨_, a1, a2, a3, a4⟩ := least_spec hl
  obtain ⟨k, k1, k2, k3⟩ := window (w := sg l) (n := l.length) (p := leastV l) (c := c) ((perB_iff a2).mp a3) h2 (fun q q1 q2 h => by
    have := a4 q q1 q2
    rw [(perB_iff (by omega)).mpr h] at this; cases this) hc
  refine ⟨k, k1, k2, ?_⟩
  obtain ⟨_, b1, b2, b3, b4⟩ := near_spec hl k
  have := near_le hl k
  rcases Nat.lt_or_ge (nearV l k) (leastV l) with q | q
  · exact (k3 _ b1 q (locB_iff.mp b3)).elim
  · omega
end
/-! the program -/
theorem ok_hasp {l : List Nat} {p : Nat} (hp : p ≤ l.length) : den_has_period [.fz (tx l), .fz (.int (p : Nat))] = .ok (.fz (.bool (perB l p))) [none, none] := by
  have a1 := slc_d (l := l) (m := p)
  have a2 := slc_t (l := l) (m := l.length - p)
  have e : ((l.length : Nat) : Int) - (p : Nat) = ((l.length - p : Nat) : Int) := by omega
  have a3 := eq_tx (a := l.drop p) (b := l.take (l.length - p))
  unfold perB
  generalize l.drop p = A at a1 a3 ⊢
  generalize l.take (l.length - p) = B at a2 a3 ⊢
  generalize l.length - p = m at e a2
  simp -implicitDefEqProofs [den_has_period, bod_has_period, b_has_period_0, Vi.bind_ok, Vi.bind_bad, Vi.bind_ex, Vi.so_ok, Vi.sb_nx, Vi.sb_ret, Vi.sb_bad, Vi.d_fz, Vi.d_olI, Vi.d_ol, Vi.o_some, Vi.tst_b, Vi.tst_i, Vi.tst_l, Vi.tst_s, Vi.tst_n, Vi.oB_some, Vi.oP_some, Vi.oL_some, Vi.rdV_fz, Vi.rdV_ol, Vi.rdV2_some, Vi.mvV_ol, Vi.mvV_fz, Vi.rdVar_c, Vi.ev_var, Vi.ev_mv, Vi.ev_int, Vi.ev_bl, Vi.ev_non, Vi.ev_str, Vi.ev_gi, Vi.ev_gs, Vi.ev_bin, Vi.ev_neg, Vi.ev_cmp, Vi.evT_cmp, Vi.ev_chain, Vi.ev_one, Vi.andK_b, Vi.orK_b, Vi.notK_b, Vi.ev_and, Vi.ev_or, Vi.ev_not, Vi.isB_b, Vi.ev_ite, Vi.ev_tup, Vi.ev_lst, Vi.ev_ix, Vi.ev_slc, Vi.evP_no, Vi.evP_yes, Vi.ev_call, Vi.calK_some, Vi.calR_ok, Vi.evA_nil, Vi.evA_e, Vi.evA_o, Vi.args_nil, Vi.args_e, Vi.args_o, Vi.argK_s, Vi.asm_nil, Vi.asm_e, Vi.asm_o, Vi.asmK_s, Vi.lent_ol, Vi.lent_sc, Vi.lent_fz, Vi.put_nil, Vi.put_e, Vi.put_o, Vi.ev_blt, Vi.ev_isi, Vi.ev_lsc, Vi.lscK_s, Vi.cmpK_ok, Vi.ev_lc, Vi.evC_no, Vi.evC_yes, Vi.evI_e, Vi.evI_r1, Vi.evI_r2, Vi.evs_nil, Vi.evs_cons, Vi.evO_nil, Vi.evO_cons, Vi.olO_s, Vi.olOf_c, Vi.appK_s, Vi.appK2_s, Vi.ev_app, Vi.ev_mt, Vi.evT_mt, Vi.appNK_s, Vi.ev_appN, Vi.inOf_c, Vi.inK_s, Vi.inK2_s, Vi.mvixK_s, Vi.ev_mvix, Vi.ev_rev, Vi.ev_repC, Vi.evT_rev, Vi.evI_en, Vi.evI_rv, Vi.evI_rg, Vi.rgK_s, Vi.asgTK_s, Vi.ex_asgT, Vi.bwsK_nx, Vi.bwsK_ret, Vi.ex_bws, Vi.ex_rais, Vi.tryK_nx, Vi.tryK_ret, Vi.ex_try, Vi.so_ex, Vi.sb_ex, Vi.d_ex, Vi.runK_ex, Vi.calR_ex, Vi.keepE, Vi.cloF, Vi.closedR, Vi.bwK_ok, Vi.ev_bw, Vi.bwK'_ok, Vi.evT_bw, Vi.evT_chain, Vi.evT_one, Vi.evT_and, Vi.evT_or, Vi.evT_not, Vi.evT_var, Vi.evT_call, Vi.evT_isi, Vi.evT_blt, Vi.evT_ix, Vi.evT_bin, Vi.evT_bl, Vi.ex_pass, Vi.ex_asg, Vi.ex_expr, Vi.ex_ret, Vi.ex_retN, Vi.ex_if, Vi.ex_for, Vi.setK_s, Vi.setK2_s, Vi.setK3_s, Vi.ex_set, Vi.ex_aug, Vi.ex_augS, Vi.augM, Vi.augSM, Vi.exs_nil, Vi.exs_cons, Vi.run_b, Vi.runK_ret, Vi.runK_nx, Vi.frzE_nil, Vi.frz_cons, Vi.frzK_ol, Vi.frzK2_s, Vi.frzK_fz, Vi.frzK_no, Vi.frzK_olI, Vi.rdV_olI, Vi.mvV_olI, Vi.olO_olI, Vi.lent_olI, Vi.closed_olI, Vi.dOf_fz, Vi.dOf_olI, Vi.dOf_olI', Vi.dsOf_fz, Vi.dsOf_ints, Vi.dsOf_nil, Vi.dsOf_cons, Option.map_some, Vi.binD, Vi.add_int, Vi.sub_int, Vi.cmpD, Vi.lt_int, Vi.le_int, Vi.gt_int, Vi.ge_int, Vi.neg_int, Vi.bf_len_l, Vi.bf_len_t, Vi.bf_len_s, Vi.bf_abs, Vi.bf_int, Vi.bf_intb, Vi.bf_max2, Vi.bf_min2, Vi.bf_list_l, Vi.bf_list_t, Vi.bf_tup_l, Vi.bf_sum, Vi.ix_l, Vi.ix_t, Vi.ix_s, Vi.isiD, Vi.chain2_eq, Vi.chainK_b, Vi.iop_add, Vi.iop_sub, Vi.it_l, Vi.it_t, Vi.it_s, Vi.lentOk, Vi.outs_nil, Vi.outs_fz, Vi.outs_c, List.tail_cons, Vi.killE, Vi.noOwn, Vi.closed, Vi.closeds, Vi.closedD, Vi.closeds_ints, Vi.wipeE, Vi.resE, Vi.bd_nm, Vi.bd_tp, Vi.bdN, Vi.bdT, Vi.bdsN, Vi.bdNil, Vi.bdCons, Vi.Tg.js, Vi.partM, Vi.eq_int, Vi.eq_str, Vi.eq_bool, Vi.eq_ints, tS_len, e, a1, a2, a3]
theorem ok_periods {l : List Nat} (hl : l.length ≤ 1000) : den_periods_of [.fz (tx l)] = .ok (.ol (((upF 1 (l.length + 1)).filter (perB l)).map fun i => .fz (.int (i : Nat)))) [none] := by
  have rr : rngD [.int 1, .int ((l.length : Int) + 1)] = some ((upF 1 (l.length + 1)).map fun i => .int (i : Nat)) := rng_upF (m := 1) (n := l.length + 1) (by omega) (by omega)
  have c : compL (bdG (.nm 1)) (evC rho_periods_of (.yes (.call 0 (.e (.var 0) (.e (.var 1) .nil))))) (ev rho_periods_of (.var 1)) [1] ((upF 1 (l.length + 1)).map fun i => .int (i : Nat)) [some (.fz (tx l)), none] = .ok (((upF 1 (l.length + 1)).filter (perB l)).map fun i => .fz (.int (i : Nat))) [some (.fz (tx l)), none] := by
    refine compL_fm (perB l) (fun i => .fz (.int (i : Nat))) _ fun x hx => ⟨[some (.fz (tx l)), some (.fz (.int (x : Nat)))], [some (.fz (tx l)), some (.fz (.int (x : Nat)))], ?_, ?_, ?_⟩
    · simp -implicitDefEqProofs [Vi.bind_ok, Vi.bind_bad, Vi.bind_ex, Vi.so_ok, Vi.sb_nx, Vi.sb_ret, Vi.sb_bad, Vi.d_fz, Vi.d_olI, Vi.d_ol, Vi.o_some, Vi.tst_b, Vi.tst_i, Vi.tst_l, Vi.tst_s, Vi.tst_n, Vi.oB_some, Vi.oP_some, Vi.oL_some, Vi.rdV_fz, Vi.rdV_ol, Vi.rdV2_some, Vi.mvV_ol, Vi.mvV_fz, Vi.rdVar_c, Vi.ev_var, Vi.ev_mv, Vi.ev_int, Vi.ev_bl, Vi.ev_non, Vi.ev_str, Vi.ev_gi, Vi.ev_gs, Vi.ev_bin, Vi.ev_neg, Vi.ev_cmp, Vi.evT_cmp, Vi.ev_chain, Vi.ev_one, Vi.andK_b, Vi.orK_b, Vi.notK_b, Vi.ev_and, Vi.ev_or, Vi.ev_not, Vi.isB_b, Vi.ev_ite, Vi.ev_tup, Vi.ev_lst, Vi.ev_ix, Vi.ev_slc, Vi.evP_no, Vi.evP_yes, Vi.ev_call, Vi.calK_some, Vi.calR_ok, Vi.evA_nil, Vi.evA_e, Vi.evA_o, Vi.args_nil, Vi.args_e, Vi.args_o, Vi.argK_s, Vi.asm_nil, Vi.asm_e, Vi.asm_o, Vi.asmK_s, Vi.lent_ol, Vi.lent_sc, Vi.lent_fz, Vi.put_nil, Vi.put_e, Vi.put_o, Vi.ev_blt, Vi.ev_isi, Vi.ev_lsc, Vi.lscK_s, Vi.cmpK_ok, Vi.ev_lc, Vi.evC_no, Vi.evC_yes, Vi.evI_e, Vi.evI_r1, Vi.evI_r2, Vi.evs_nil, Vi.evs_cons, Vi.evO_nil, Vi.evO_cons, Vi.olO_s, Vi.olOf_c, Vi.appK_s, Vi.appK2_s, Vi.ev_app, Vi.ev_mt, Vi.evT_mt, Vi.appNK_s, Vi.ev_appN, Vi.inOf_c, Vi.inK_s, Vi.inK2_s, Vi.mvixK_s, Vi.ev_mvix, Vi.ev_rev, Vi.ev_repC, Vi.evT_rev, Vi.evI_en, Vi.evI_rv, Vi.evI_rg, Vi.rgK_s, Vi.asgTK_s, Vi.ex_asgT, Vi.bwsK_nx, Vi.bwsK_ret, Vi.ex_bws, Vi.ex_rais, Vi.tryK_nx, Vi.tryK_ret, Vi.ex_try, Vi.so_ex, Vi.sb_ex, Vi.d_ex, Vi.runK_ex, Vi.calR_ex, Vi.keepE, Vi.cloF, Vi.closedR, Vi.bwK_ok, Vi.ev_bw, Vi.bwK'_ok, Vi.evT_bw, Vi.evT_chain, Vi.evT_one, Vi.evT_and, Vi.evT_or, Vi.evT_not, Vi.evT_var, Vi.evT_call, Vi.evT_isi, Vi.evT_blt, Vi.evT_ix, Vi.evT_bin, Vi.evT_bl, Vi.ex_pass, Vi.ex_asg, Vi.ex_expr, Vi.ex_ret, Vi.ex_retN, Vi.ex_if, Vi.ex_for, Vi.setK_s, Vi.setK2_s, Vi.setK3_s, Vi.ex_set, Vi.ex_aug, Vi.ex_augS, Vi.augM, Vi.augSM, Vi.exs_nil, Vi.exs_cons, Vi.run_b, Vi.runK_ret, Vi.runK_nx, Vi.frzE_nil, Vi.frz_cons, Vi.frzK_ol, Vi.frzK2_s, Vi.frzK_fz, Vi.frzK_no, Vi.frzK_olI, Vi.rdV_olI, Vi.mvV_olI, Vi.olO_olI, Vi.lent_olI, Vi.closed_olI, Vi.dOf_fz, Vi.dOf_olI, Vi.dOf_olI', Vi.dsOf_fz, Vi.dsOf_ints, Vi.dsOf_nil, Vi.dsOf_cons, Option.map_some, Vi.binD, Vi.add_int, Vi.sub_int, Vi.cmpD, Vi.lt_int, Vi.le_int, Vi.gt_int, Vi.ge_int, Vi.neg_int, Vi.bf_len_l, Vi.bf_len_t, Vi.bf_len_s, Vi.bf_abs, Vi.bf_int, Vi.bf_intb, Vi.bf_max2, Vi.bf_min2, Vi.bf_list_l, Vi.bf_list_t, Vi.bf_tup_l, Vi.bf_sum, Vi.ix_l, Vi.ix_t, Vi.ix_s, Vi.isiD, Vi.chain2_eq, Vi.chainK_b, Vi.iop_add, Vi.iop_sub, Vi.it_l, Vi.it_t, Vi.it_s, Vi.lentOk, Vi.outs_nil, Vi.outs_fz, Vi.outs_c, List.tail_cons, Vi.killE, Vi.noOwn, Vi.closed, Vi.closeds, Vi.closedD, Vi.closeds_ints, Vi.wipeE, Vi.resE, Vi.bd_nm, Vi.bd_tp, Vi.bdN, Vi.bdT, Vi.bdsN, Vi.bdNil, Vi.bdCons, Vi.Tg.js, Vi.partM, Vi.eq_int, Vi.eq_str, Vi.eq_bool, Vi.eq_ints]
    · have := mem_upF.mp hx
      have t := ok_hasp (l := l) (p := x) (by omega)
      generalize perB l x = R at t
      simp -implicitDefEqProofs [Vi.bind_ok, Vi.bind_bad, Vi.bind_ex, Vi.so_ok, Vi.sb_nx, Vi.sb_ret, Vi.sb_bad, Vi.d_fz, Vi.d_olI, Vi.d_ol, Vi.o_some, Vi.tst_b, Vi.tst_i, Vi.tst_l, Vi.tst_s, Vi.tst_n, Vi.oB_some, Vi.oP_some, Vi.oL_some, Vi.rdV_fz, Vi.rdV_ol, Vi.rdV2_some, Vi.mvV_ol, Vi.mvV_fz, Vi.rdVar_c, Vi.ev_var, Vi.ev_mv, Vi.ev_int, Vi.ev_bl, Vi.ev_non, Vi.ev_str, Vi.ev_gi, Vi.ev_gs, Vi.ev_bin, Vi.ev_neg, Vi.ev_cmp, Vi.evT_cmp, Vi.ev_chain, Vi.ev_one, Vi.andK_b, Vi.orK_b, Vi.notK_b, Vi.ev_and, Vi.ev_or, Vi.ev_not, Vi.isB_b, Vi.ev_ite, Vi.ev_tup, Vi.ev_lst, Vi.ev_ix, Vi.ev_slc, Vi.evP_no, Vi.evP_yes, Vi.ev_call, Vi.calK_some, Vi.calR_ok, Vi.evA_nil, Vi.evA_e, Vi.evA_o, Vi.args_nil, Vi.args_e, Vi.args_o, Vi.argK_s, Vi.asm_nil, Vi.asm_e, Vi.asm_o, Vi.asmK_s, Vi.lent_ol, Vi.lent_sc, Vi.lent_fz, Vi.put_nil, Vi.put_e, Vi.put_o, Vi.ev_blt, Vi.ev_isi, Vi.ev_lsc, Vi.lscK_s, Vi.cmpK_ok, Vi.ev_lc, Vi.evC_no, Vi.evC_yes, Vi.evI_e, Vi.evI_r1, Vi.evI_r2, Vi.evs_nil, Vi.evs_cons, Vi.evO_nil, Vi.evO_cons, Vi.olO_s, Vi.olOf_c, Vi.appK_s, Vi.appK2_s, Vi.ev_app, Vi.ev_mt, Vi.evT_mt, Vi.appNK_s, Vi.ev_appN, Vi.inOf_c, Vi.inK_s, Vi.inK2_s, Vi.mvixK_s, Vi.ev_mvix, Vi.ev_rev, Vi.ev_repC, Vi.evT_rev, Vi.evI_en, Vi.evI_rv, Vi.evI_rg, Vi.rgK_s, Vi.asgTK_s, Vi.ex_asgT, Vi.bwsK_nx, Vi.bwsK_ret, Vi.ex_bws, Vi.ex_rais, Vi.tryK_nx, Vi.tryK_ret, Vi.ex_try, Vi.so_ex, Vi.sb_ex, Vi.d_ex, Vi.runK_ex, Vi.calR_ex, Vi.keepE, Vi.cloF, Vi.closedR, Vi.bwK_ok, Vi.ev_bw, Vi.bwK'_ok, Vi.evT_bw, Vi.evT_chain, Vi.evT_one, Vi.evT_and, Vi.evT_or, Vi.evT_not, Vi.evT_var, Vi.evT_call, Vi.evT_isi, Vi.evT_blt, Vi.evT_ix, Vi.evT_bin, Vi.evT_bl, Vi.ex_pass, Vi.ex_asg, Vi.ex_expr, Vi.ex_ret, Vi.ex_retN, Vi.ex_if, Vi.ex_for, Vi.setK_s, Vi.setK2_s, Vi.setK3_s, Vi.ex_set, Vi.ex_aug, Vi.ex_augS, Vi.augM, Vi.augSM, Vi.exs_nil, Vi.exs_cons, Vi.run_b, Vi.runK_ret, Vi.runK_nx, Vi.frzE_nil, Vi.frz_cons, Vi.frzK_ol, Vi.frzK2_s, Vi.frzK_fz, Vi.frzK_no, Vi.frzK_olI, Vi.rdV_olI, Vi.mvV_olI, Vi.olO_olI, Vi.lent_olI, Vi.closed_olI, Vi.dOf_fz, Vi.dOf_olI, Vi.dOf_olI', Vi.dsOf_fz, Vi.dsOf_ints, Vi.dsOf_nil, Vi.dsOf_cons, Option.map_some, Vi.binD, Vi.add_int, Vi.sub_int, Vi.cmpD, Vi.lt_int, Vi.le_int, Vi.gt_int, Vi.ge_int, Vi.neg_int, Vi.bf_len_l, Vi.bf_len_t, Vi.bf_len_s, Vi.bf_abs, Vi.bf_int, Vi.bf_intb, Vi.bf_max2, Vi.bf_min2, Vi.bf_list_l, Vi.bf_list_t, Vi.bf_tup_l, Vi.bf_sum, Vi.ix_l, Vi.ix_t, Vi.ix_s, Vi.isiD, Vi.chain2_eq, Vi.chainK_b, Vi.iop_add, Vi.iop_sub, Vi.it_l, Vi.it_t, Vi.it_s, Vi.lentOk, Vi.outs_nil, Vi.outs_fz, Vi.outs_c, List.tail_cons, Vi.killE, Vi.noOwn, Vi.closed, Vi.closeds, Vi.closedD, Vi.closeds_ints, Vi.wipeE, Vi.resE, Vi.bd_nm, Vi.bd_tp, Vi.bdN, Vi.bdT, Vi.bdsN, Vi.bdNil, Vi.bdCons, Vi.Tg.js, Vi.partM, Vi.eq_int, Vi.eq_str, Vi.eq_bool, Vi.eq_ints, rho_periods_of, t]
    · simp -implicitDefEqProofs [Vi.bind_ok, Vi.bind_bad, Vi.bind_ex, Vi.so_ok, Vi.sb_nx, Vi.sb_ret, Vi.sb_bad, Vi.d_fz, Vi.d_olI, Vi.d_ol, Vi.o_some, Vi.tst_b, Vi.tst_i, Vi.tst_l, Vi.tst_s, Vi.tst_n, Vi.oB_some, Vi.oP_some, Vi.oL_some, Vi.rdV_fz, Vi.rdV_ol, Vi.rdV2_some, Vi.mvV_ol, Vi.mvV_fz, Vi.rdVar_c, Vi.ev_var, Vi.ev_mv, Vi.ev_int, Vi.ev_bl, Vi.ev_non, Vi.ev_str, Vi.ev_gi, Vi.ev_gs, Vi.ev_bin, Vi.ev_neg, Vi.ev_cmp, Vi.evT_cmp, Vi.ev_chain, Vi.ev_one, Vi.andK_b, Vi.orK_b, Vi.notK_b, Vi.ev_and, Vi.ev_or, Vi.ev_not, Vi.isB_b, Vi.ev_ite, Vi.ev_tup, Vi.ev_lst, Vi.ev_ix, Vi.ev_slc, Vi.evP_no, Vi.evP_yes, Vi.ev_call, Vi.calK_some, Vi.calR_ok, Vi.evA_nil, Vi.evA_e, Vi.evA_o, Vi.args_nil, Vi.args_e, Vi.args_o, Vi.argK_s, Vi.asm_nil, Vi.asm_e, Vi.asm_o, Vi.asmK_s, Vi.lent_ol, Vi.lent_sc, Vi.lent_fz, Vi.put_nil, Vi.put_e, Vi.put_o, Vi.ev_blt, Vi.ev_isi, Vi.ev_lsc, Vi.lscK_s, Vi.cmpK_ok, Vi.ev_lc, Vi.evC_no, Vi.evC_yes, Vi.evI_e, Vi.evI_r1, Vi.evI_r2, Vi.evs_nil, Vi.evs_cons, Vi.evO_nil, Vi.evO_cons, Vi.olO_s, Vi.olOf_c, Vi.appK_s, Vi.appK2_s, Vi.ev_app, Vi.ev_mt, Vi.evT_mt, Vi.appNK_s, Vi.ev_appN, Vi.inOf_c, Vi.inK_s, Vi.inK2_s, Vi.mvixK_s, Vi.ev_mvix, Vi.ev_rev, Vi.ev_repC, Vi.evT_rev, Vi.evI_en, Vi.evI_rv, Vi.evI_rg, Vi.rgK_s, Vi.asgTK_s, Vi.ex_asgT, Vi.bwsK_nx, Vi.bwsK_ret, Vi.ex_bws, Vi.ex_rais, Vi.tryK_nx, Vi.tryK_ret, Vi.ex_try, Vi.so_ex, Vi.sb_ex, Vi.d_ex, Vi.runK_ex, Vi.calR_ex, Vi.keepE, Vi.cloF, Vi.closedR, Vi.bwK_ok, Vi.ev_bw, Vi.bwK'_ok, Vi.evT_bw, Vi.evT_chain, Vi.evT_one, Vi.evT_and, Vi.evT_or, Vi.evT_not, Vi.evT_var, Vi.evT_call, Vi.evT_isi, Vi.evT_blt, Vi.evT_ix, Vi.evT_bin, Vi.evT_bl, Vi.ex_pass, Vi.ex_asg, Vi.ex_expr, Vi.ex_ret, Vi.ex_retN, Vi.ex_if, Vi.ex_for, Vi.setK_s, Vi.setK2_s, Vi.setK3_s, Vi.ex_set, Vi.ex_aug, Vi.ex_augS, Vi.augM, Vi.augSM, Vi.exs_nil, Vi.exs_cons, Vi.run_b, Vi.runK_ret, Vi.runK_nx, Vi.frzE_nil, Vi.frz_cons, Vi.frzK_ol, Vi.frzK2_s, Vi.frzK_fz, Vi.frzK_no, Vi.frzK_olI, Vi.rdV_olI, Vi.mvV_olI, Vi.olO_olI, Vi.lent_olI, Vi.closed_olI, Vi.dOf_fz, Vi.dOf_olI, Vi.dOf_olI', Vi.dsOf_fz, Vi.dsOf_ints, Vi.dsOf_nil, Vi.dsOf_cons, Option.map_some, Vi.binD, Vi.add_int, Vi.sub_int, Vi.cmpD, Vi.lt_int, Vi.le_int, Vi.gt_int, Vi.ge_int, Vi.neg_int, Vi.bf_len_l, Vi.bf_len_t, Vi.bf_len_s, Vi.bf_abs, Vi.bf_int, Vi.bf_intb, Vi.bf_max2, Vi.bf_min2, Vi.bf_list_l, Vi.bf_list_t, Vi.bf_tup_l, Vi.bf_sum, Vi.ix_l, Vi.ix_t, Vi.ix_s, Vi.isiD, Vi.chain2_eq, Vi.chainK_b, Vi.iop_add, Vi.iop_sub, Vi.it_l, Vi.it_t, Vi.it_s, Vi.lentOk, Vi.outs_nil, Vi.outs_fz, Vi.outs_c, List.tail_cons, Vi.killE, Vi.noOwn, Vi.closed, Vi.closeds, Vi.closedD, Vi.closeds_ints, Vi.wipeE, Vi.resE, Vi.bd_nm, Vi.bd_tp, Vi.bdN, Vi.bdT, Vi.bdsN, Vi.bdNil, Vi.bdCons, Vi.Tg.js, Vi.partM, Vi.eq_int, Vi.eq_str, Vi.eq_bool, Vi.eq_ints]
  simp -implicitDefEqProofs [den_periods_of, bod_periods_of, b_periods_of_0, Vi.bind_ok, Vi.bind_bad, Vi.bind_ex, Vi.so_ok, Vi.sb_nx, Vi.sb_ret, Vi.sb_bad, Vi.d_fz, Vi.d_olI, Vi.d_ol, Vi.o_some, Vi.tst_b, Vi.tst_i, Vi.tst_l, Vi.tst_s, Vi.tst_n, Vi.oB_some, Vi.oP_some, Vi.oL_some, Vi.rdV_fz, Vi.rdV_ol, Vi.rdV2_some, Vi.mvV_ol, Vi.mvV_fz, Vi.rdVar_c, Vi.ev_var, Vi.ev_mv, Vi.ev_int, Vi.ev_bl, Vi.ev_non, Vi.ev_str, Vi.ev_gi, Vi.ev_gs, Vi.ev_bin, Vi.ev_neg, Vi.ev_cmp, Vi.evT_cmp, Vi.ev_chain, Vi.ev_one, Vi.andK_b, Vi.orK_b, Vi.notK_b, Vi.ev_and, Vi.ev_or, Vi.ev_not, Vi.isB_b, Vi.ev_ite, Vi.ev_tup, Vi.ev_lst, Vi.ev_ix, Vi.ev_slc, Vi.evP_no, Vi.evP_yes, Vi.ev_call, Vi.calK_some, Vi.calR_ok, Vi.evA_nil, Vi.evA_e, Vi.evA_o, Vi.args_nil, Vi.args_e, Vi.args_o, Vi.argK_s, Vi.asm_nil, Vi.asm_e, Vi.asm_o, Vi.asmK_s, Vi.lent_ol, Vi.lent_sc, Vi.lent_fz, Vi.put_nil, Vi.put_e, Vi.put_o, Vi.ev_blt, Vi.ev_isi, Vi.ev_lsc, Vi.lscK_s, Vi.cmpK_ok, Vi.ev_lc, Vi.evC_no, Vi.evC_yes, Vi.evI_e, Vi.evI_r1, Vi.evI_r2, Vi.evs_nil, Vi.evs_cons, Vi.evO_nil, Vi.evO_cons, Vi.olO_s, Vi.olOf_c, Vi.appK_s, Vi.appK2_s, Vi.ev_app, Vi.ev_mt, Vi.evT_mt, Vi.appNK_s, Vi.ev_appN, Vi.inOf_c, Vi.inK_s, Vi.inK2_s, Vi.mvixK_s, Vi.ev_mvix, Vi.ev_rev, Vi.ev_repC, Vi.evT_rev, Vi.evI_en, Vi.evI_rv, Vi.evI_rg, Vi.rgK_s, Vi.asgTK_s, Vi.ex_asgT, Vi.bwsK_nx, Vi.bwsK_ret, Vi.ex_bws, Vi.ex_rais, Vi.tryK_nx, Vi.tryK_ret, Vi.ex_try, Vi.so_ex, Vi.sb_ex, Vi.d_ex, Vi.runK_ex, Vi.calR_ex, Vi.keepE, Vi.cloF, Vi.closedR, Vi.bwK_ok, Vi.ev_bw, Vi.bwK'_ok, Vi.evT_bw, Vi.evT_chain, Vi.evT_one, Vi.evT_and, Vi.evT_or, Vi.evT_not, Vi.evT_var, Vi.evT_call, Vi.evT_isi, Vi.evT_blt, Vi.evT_ix, Vi.evT_bin, Vi.evT_bl, Vi.ex_pass, Vi.ex_asg, Vi.ex_expr, Vi.ex_ret, Vi.ex_retN, Vi.ex_if, Vi.ex_for, Vi.setK_s, Vi.setK2_s, Vi.setK3_s, Vi.ex_set, Vi.ex_aug, Vi.ex_augS, Vi.augM, Vi.augSM, Vi.exs_nil, Vi.exs_cons, Vi.run_b, Vi.runK_ret, Vi.runK_nx, Vi.frzE_nil, Vi.frz_cons, Vi.frzK_ol, Vi.frzK2_s, Vi.frzK_fz, Vi.frzK_no, Vi.frzK_olI, Vi.rdV_olI, Vi.mvV_olI, Vi.olO_olI, Vi.lent_olI, Vi.closed_olI, Vi.dOf_fz, Vi.dOf_olI, Vi.dOf_olI', Vi.dsOf_fz, Vi.dsOf_ints, Vi.dsOf_nil, Vi.dsOf_cons, Option.map_some, Vi.binD, Vi.add_int, Vi.sub_int, Vi.cmpD, Vi.lt_int, Vi.le_int, Vi.gt_int, Vi.ge_int, Vi.neg_int, Vi.bf_len_l, Vi.bf_len_t, Vi.bf_len_s, Vi.bf_abs, Vi.bf_int, Vi.bf_intb, Vi.bf_max2, Vi.bf_min2, Vi.bf_list_l, Vi.bf_list_t, Vi.bf_tup_l, Vi.bf_sum, Vi.ix_l, Vi.ix_t, Vi.ix_s, Vi.isiD, Vi.chain2_eq, Vi.chainK_b, Vi.iop_add, Vi.iop_sub, Vi.it_l, Vi.it_t, Vi.it_s, Vi.lentOk, Vi.outs_nil, Vi.outs_fz, Vi.outs_c, List.tail_cons, Vi.killE, Vi.noOwn, Vi.closed, Vi.closeds, Vi.closedD, Vi.closeds_ints, Vi.wipeE, Vi.resE, Vi.bd_nm, Vi.bd_tp, Vi.bdN, Vi.bdT, Vi.bdsN, Vi.bdNil, Vi.bdCons, Vi.Tg.js, Vi.partM, Vi.eq_int, Vi.eq_str, Vi.eq_bool, Vi.eq_ints, tS_len, rr, c]
theorem bf_range {lo hi : Int} : bfD .range [.int lo, .int hi] = if (-(2 ^ 61) ≤ lo ∧ lo < 2 ^ 61) ∧ (-(2 ^ 61) ≤ hi ∧ hi < 2 ^ 61) ∧ hi - lo ≤ 16777216 then some (.rg lo hi) else none := rfl
theorem ok_isn {l : List Nat} (hl : l.length ≤ 1000) {k p : Nat} (hk : k ≤ l.length) (hp : p ≤ l.length) : den_is_near_period [.fz (tx l), .fz (.int (k : Nat)), .fz (.int (p : Nat))] = .ok (.fz (.bool (locB l k p))) [none, none, none] := by
  have h1 : bfD .max [.int 0, .int ((k : Int) - (p : Int))] = some (.fz (.int ((k - p : Nat) : Int))) := by
    rw [bf_max2]; congr 3; split <;> omega
  have h2 : bfD .min [.int (k : Int), .int ((l.length : Int) - (p : Int))] = some (.fz (.int ((min k (l.length - p) : Nat) : Int))) := by
    rw [bf_min2]; congr 3; split <;> omega
  have cond : (-(2 ^ 61) ≤ (((k - p : Nat) : Int)) ∧ (((k - p : Nat) : Int)) < 2 ^ 61) ∧ (-(2 ^ 61) ≤ (((min k (l.length - p) : Nat) : Int)) ∧ (((min k (l.length - p) : Nat) : Int)) < 2 ^ 61) ∧ (((min k (l.length - p) : Nat) : Int)) - (((k - p : Nat) : Int)) ≤ 16777216 := by omega
  have h3 : bfD .range [.int ((k - p : Nat) : Int), .int ((min k (l.length - p) : Nat) : Int)] = some (.rg ((k - p : Nat) : Int) ((min k (l.length - p) : Nat) : Int)) := by
    rw [bf_range, if_pos cond]
  have h4 : ∀ e, rgK e (some (some (.rg ((k - p : Nat) : Int) ((min k (l.length - p) : Nat) : Int)))) = .ok ((upF (k - p) (min k (l.length - p))).map fun i => .int (i : Nat)) e := fun e => by
    rw [rgK_s, if_pos cond]
    have := rng_upF (m := k - p) (n := min k (l.length - p)) (by omega) (by omega)
    rw [rng_2 cond.1 cond.2.1 cond.2.2] at this
    rw [Option.some.inj this]
  have c : compL (bdG (.nm 4)) (evC rho_is_near_period .no) (ev rho_is_near_period (.cmp .Eq (.ix (.var 0) (.var 4)) (.ix (.var 0) (.bin .Add (.var 4) (.var 2))))) [4] ((upF (k - p) (min k (l.length - p))).map fun i => .int (i : Nat)) [some (.fz (tx l)), some (.fz (.int (k : Nat))), some (.fz (.int (p : Nat))), some (.rg ((k - p : Nat) : Int) ((min k (l.length - p) : Nat) : Int)), none] = .ok (((upF (k - p) (min k (l.length - p))).filter fun _ => true).map fun i => .fz (.bool (decide (sg l i = sg l (i + p))))) [some (.fz (tx l)), some (.fz (.int (k : Nat))), some (.fz (.int (p : Nat))), some (.rg ((k - p : Nat) : Int) ((min k (l.length - p) : Nat) : Int)), none] := by
    refine compL_fm (fun _ => true) (fun i => .fz (.bool (decide (sg l i = sg l (i + p))))) _ fun x hx => ?_
    have hx := mem_upF.mp hx
    have s1 := sg_at (w := l) (i := x) (by omega)
    have s2 := sg_at (w := l) (i := x + p) (by omega)
    have e2 : ((x + p : Nat) : Int) = (x : Int) + (p : Int) := rfl
    rw [e2] at s2
    have e := eq_tx (a := [sg l x]) (b := [sg l (x + p)])
    have e3 : decide ([sg l x] = [sg l (x + p)]) = decide (sg l x = sg l (x + p)) := by simp
    rw [e3] at e
    generalize decide (sg l x = sg l (x + p)) = R at e ⊢
    generalize sg l x = A at e s1
    generalize sg l (x + p) = B at e s2
    generalize ((k - p : Nat) : Int) = LO
    generalize ((min k (l.length - p) : Nat) : Int) = HI
    exact ⟨[some (.fz (tx l)), some (.fz (.int (k : Nat))), some (.fz (.int (p : Nat))), some (.rg LO HI), some (.fz (.int (x : Nat)))], [some (.fz (tx l)), some (.fz (.int (k : Nat))), some (.fz (.int (p : Nat))), some (.rg LO HI), some (.fz (.int (x : Nat)))], by simp -implicitDefEqProofs [Vi.bind_ok, Vi.bind_bad, Vi.bind_ex, Vi.so_ok, Vi.sb_nx, Vi.sb_ret, Vi.sb_bad, Vi.d_fz, Vi.d_olI, Vi.d_ol, Vi.o_some, Vi.tst_b, Vi.tst_i, Vi.tst_l, Vi.tst_s, Vi.tst_n, Vi.oB_some, Vi.oP_some, Vi.oL_some, Vi.rdV_fz, Vi.rdV_ol, Vi.rdV2_some, Vi.mvV_ol, Vi.mvV_fz, Vi.rdVar_c, Vi.ev_var, Vi.ev_mv, Vi.ev_int, Vi.ev_bl, Vi.ev_non, Vi.ev_str, Vi.ev_gi, Vi.ev_gs, Vi.ev_bin, Vi.ev_neg, Vi.ev_cmp, Vi.evT_cmp, Vi.ev_chain, Vi.ev_one, Vi.andK_b, Vi.orK_b, Vi.notK_b, Vi.ev_and, Vi.ev_or, Vi.ev_not, Vi.isB_b, Vi.ev_ite, Vi.ev_tup, Vi.ev_lst, Vi.ev_ix, Vi.ev_slc, Vi.evP_no, Vi.evP_yes, Vi.ev_call, Vi.calK_some, Vi.calR_ok, Vi.evA_nil, Vi.evA_e, Vi.evA_o, Vi.args_nil, Vi.args_e, Vi.args_o, Vi.argK_s, Vi.asm_nil, Vi.asm_e, Vi.asm_o, Vi.asmK_s, Vi.lent_ol, Vi.lent_sc, Vi.lent_fz, Vi.put_nil, Vi.put_e, Vi.put_o, Vi.ev_blt, Vi.ev_isi, Vi.ev_lsc, Vi.lscK_s, Vi.cmpK_ok, Vi.ev_lc, Vi.evC_no, Vi.evC_yes, Vi.evI_e, Vi.evI_r1, Vi.evI_r2, Vi.evs_nil, Vi.evs_cons, Vi.evO_nil, Vi.evO_cons, Vi.olO_s, Vi.olOf_c, Vi.appK_s, Vi.appK2_s, Vi.ev_app, Vi.ev_mt, Vi.evT_mt, Vi.appNK_s, Vi.ev_appN, Vi.inOf_c, Vi.inK_s, Vi.inK2_s, Vi.mvixK_s, Vi.ev_mvix, Vi.ev_rev, Vi.ev_repC, Vi.evT_rev, Vi.evI_en, Vi.evI_rv, Vi.evI_rg, Vi.rgK_s, Vi.asgTK_s, Vi.ex_asgT, Vi.bwsK_nx, Vi.bwsK_ret, Vi.ex_bws, Vi.ex_rais, Vi.tryK_nx, Vi.tryK_ret, Vi.ex_try, Vi.so_ex, Vi.sb_ex, Vi.d_ex, Vi.runK_ex, Vi.calR_ex, Vi.keepE, Vi.cloF, Vi.closedR, Vi.bwK_ok, Vi.ev_bw, Vi.bwK'_ok, Vi.evT_bw, Vi.evT_chain, Vi.evT_one, Vi.evT_and, Vi.evT_or, Vi.evT_not, Vi.evT_var, Vi.evT_call, Vi.evT_isi, Vi.evT_blt, Vi.evT_ix, Vi.evT_bin, Vi.evT_bl, Vi.ex_pass, Vi.ex_asg, Vi.ex_expr, Vi.ex_ret, Vi.ex_retN, Vi.ex_if, Vi.ex_for, Vi.setK_s, Vi.setK2_s, Vi.setK3_s, Vi.ex_set, Vi.ex_aug, Vi.ex_augS, Vi.augM, Vi.augSM, Vi.exs_nil, Vi.exs_cons, Vi.run_b, Vi.runK_ret, Vi.runK_nx, Vi.frzE_nil, Vi.frz_cons, Vi.frzK_ol, Vi.frzK2_s, Vi.frzK_fz, Vi.frzK_no, Vi.frzK_olI, Vi.rdV_olI, Vi.mvV_olI, Vi.olO_olI, Vi.lent_olI, Vi.closed_olI, Vi.dOf_fz, Vi.dOf_olI, Vi.dOf_olI', Vi.dsOf_fz, Vi.dsOf_ints, Vi.dsOf_nil, Vi.dsOf_cons, Option.map_some, Vi.binD, Vi.add_int, Vi.sub_int, Vi.cmpD, Vi.lt_int, Vi.le_int, Vi.gt_int, Vi.ge_int, Vi.neg_int, Vi.bf_len_l, Vi.bf_len_t, Vi.bf_len_s, Vi.bf_abs, Vi.bf_int, Vi.bf_intb, Vi.bf_max2, Vi.bf_min2, Vi.bf_list_l, Vi.bf_list_t, Vi.bf_tup_l, Vi.bf_sum, Vi.ix_l, Vi.ix_t, Vi.ix_s, Vi.isiD, Vi.chain2_eq, Vi.chainK_b, Vi.iop_add, Vi.iop_sub, Vi.it_l, Vi.it_t, Vi.it_s, Vi.lentOk, Vi.outs_nil, Vi.outs_fz, Vi.outs_c, List.tail_cons, Vi.killE, Vi.noOwn, Vi.closed, Vi.closeds, Vi.closedD, Vi.closeds_ints, Vi.wipeE, Vi.resE, Vi.bd_nm, Vi.bd_tp, Vi.bdN, Vi.bdT, Vi.bdsN, Vi.bdNil, Vi.bdCons, Vi.Tg.js, Vi.partM, Vi.eq_int, Vi.eq_str, Vi.eq_bool, Vi.eq_ints], by simp -implicitDefEqProofs [Vi.bind_ok, Vi.bind_bad, Vi.bind_ex, Vi.so_ok, Vi.sb_nx, Vi.sb_ret, Vi.sb_bad, Vi.d_fz, Vi.d_olI, Vi.d_ol, Vi.o_some, Vi.tst_b, Vi.tst_i, Vi.tst_l, Vi.tst_s, Vi.tst_n, Vi.oB_some, Vi.oP_some, Vi.oL_some, Vi.rdV_fz, Vi.rdV_ol, Vi.rdV2_some, Vi.mvV_ol, Vi.mvV_fz, Vi.rdVar_c, Vi.ev_var, Vi.ev_mv, Vi.ev_int, Vi.ev_bl, Vi.ev_non, Vi.ev_str, Vi.ev_gi, Vi.ev_gs, Vi.ev_bin, Vi.ev_neg, Vi.ev_cmp, Vi.evT_cmp, Vi.ev_chain, Vi.ev_one, Vi.andK_b, Vi.orK_b, Vi.notK_b, Vi.ev_and, Vi.ev_or, Vi.ev_not, Vi.isB_b, Vi.ev_ite, Vi.ev_tup, Vi.ev_lst, Vi.ev_ix, Vi.ev_slc, Vi.evP_no, Vi.evP_yes, Vi.ev_call, Vi.calK_some, Vi.calR_ok, Vi.evA_nil, Vi.evA_e, Vi.evA_o, Vi.args_nil, Vi.args_e, Vi.args_o, Vi.argK_s, Vi.asm_nil, Vi.asm_e, Vi.asm_o, Vi.asmK_s, Vi.lent_ol, Vi.lent_sc, Vi.lent_fz, Vi.put_nil, Vi.put_e, Vi.put_o, Vi.ev_blt, Vi.ev_isi, Vi.ev_lsc, Vi.lscK_s, Vi.cmpK_ok, Vi.ev_lc, Vi.evC_no, Vi.evC_yes, Vi.evI_e, Vi.evI_r1, Vi.evI_r2, Vi.evs_nil, Vi.evs_cons, Vi.evO_nil, Vi.evO_cons, Vi.olO_s, Vi.olOf_c, Vi.appK_s, Vi.appK2_s, Vi.ev_app, Vi.ev_mt, Vi.evT_mt, Vi.appNK_s, Vi.ev_appN, Vi.inOf_c, Vi.inK_s, Vi.inK2_s, Vi.mvixK_s, Vi.ev_mvix, Vi.ev_rev, Vi.ev_repC, Vi.evT_rev, Vi.evI_en, Vi.evI_rv, Vi.evI_rg, Vi.rgK_s, Vi.asgTK_s, Vi.ex_asgT, Vi.bwsK_nx, Vi.bwsK_ret, Vi.ex_bws, Vi.ex_rais, Vi.tryK_nx, Vi.tryK_ret, Vi.ex_try, Vi.so_ex, Vi.sb_ex, Vi.d_ex, Vi.runK_ex, Vi.calR_ex, Vi.keepE, Vi.cloF, Vi.closedR, Vi.bwK_ok, Vi.ev_bw, Vi.bwK'_ok, Vi.evT_bw, Vi.evT_chain, Vi.evT_one, Vi.evT_and, Vi.evT_or, Vi.evT_not, Vi.evT_var, Vi.evT_call, Vi.evT_isi, Vi.evT_blt, Vi.evT_ix, Vi.evT_bin, Vi.evT_bl, Vi.ex_pass, Vi.ex_asg, Vi.ex_expr, Vi.ex_ret, Vi.ex_retN, Vi.ex_if, Vi.ex_for, Vi.setK_s, Vi.setK2_s, Vi.setK3_s, Vi.ex_set, Vi.ex_aug, Vi.ex_augS, Vi.augM, Vi.augSM, Vi.exs_nil, Vi.exs_cons, Vi.run_b, Vi.runK_ret, Vi.runK_nx, Vi.frzE_nil, Vi.frz_cons, Vi.frzK_ol, Vi.frzK2_s, Vi.frzK_fz, Vi.frzK_no, Vi.frzK_olI, Vi.rdV_olI, Vi.mvV_olI, Vi.olO_olI, Vi.lent_olI, Vi.closed_olI, Vi.dOf_fz, Vi.dOf_olI, Vi.dOf_olI', Vi.dsOf_fz, Vi.dsOf_ints, Vi.dsOf_nil, Vi.dsOf_cons, Option.map_some, Vi.binD, Vi.add_int, Vi.sub_int, Vi.cmpD, Vi.lt_int, Vi.le_int, Vi.gt_int, Vi.ge_int, Vi.neg_int, Vi.bf_len_l, Vi.bf_len_t, Vi.bf_len_s, Vi.bf_abs, Vi.bf_int, Vi.bf_intb, Vi.bf_max2, Vi.bf_min2, Vi.bf_list_l, Vi.bf_list_t, Vi.bf_tup_l, Vi.bf_sum, Vi.ix_l, Vi.ix_t, Vi.ix_s, Vi.isiD, Vi.chain2_eq, Vi.chainK_b, Vi.iop_add, Vi.iop_sub, Vi.it_l, Vi.it_t, Vi.it_s, Vi.lentOk, Vi.outs_nil, Vi.outs_fz, Vi.outs_c, List.tail_cons, Vi.killE, Vi.noOwn, Vi.closed, Vi.closeds, Vi.closedD, Vi.closeds_ints, Vi.wipeE, Vi.resE, Vi.bd_nm, Vi.bd_tp, Vi.bdN, Vi.bdT, Vi.bdsN, Vi.bdNil, Vi.bdCons, Vi.Tg.js, Vi.partM, Vi.eq_int, Vi.eq_str, Vi.eq_bool, Vi.eq_ints], by simp -implicitDefEqProofs [Vi.bind_ok, Vi.bind_bad, Vi.bind_ex, Vi.so_ok, Vi.sb_nx, Vi.sb_ret, Vi.sb_bad, Vi.d_fz, Vi.d_olI, Vi.d_ol, Vi.o_some, Vi.tst_b, Vi.tst_i, Vi.tst_l, Vi.tst_s, Vi.tst_n, Vi.oB_some, Vi.oP_some, Vi.oL_some, Vi.rdV_fz, Vi.rdV_ol, Vi.rdV2_some, Vi.mvV_ol, Vi.mvV_fz, Vi.rdVar_c, Vi.ev_var, Vi.ev_mv, Vi.ev_int, Vi.ev_bl, Vi.ev_non, Vi.ev_str, Vi.ev_gi, Vi.ev_gs, Vi.ev_bin, Vi.ev_neg, Vi.ev_cmp, Vi.evT_cmp, Vi.ev_chain, Vi.ev_one, Vi.andK_b, Vi.orK_b, Vi.notK_b, Vi.ev_and, Vi.ev_or, Vi.ev_not, Vi.isB_b, Vi.ev_ite, Vi.ev_tup, Vi.ev_lst, Vi.ev_ix, Vi.ev_slc, Vi.evP_no, Vi.evP_yes, Vi.ev_call, Vi.calK_some, Vi.calR_ok, Vi.evA_nil, Vi.evA_e, Vi.evA_o, Vi.args_nil, Vi.args_e, Vi.args_o, Vi.argK_s, Vi.asm_nil, Vi.asm_e, Vi.asm_o, Vi.asmK_s, Vi.lent_ol, Vi.lent_sc, Vi.lent_fz, Vi.put_nil, Vi.put_e, Vi.put_o, Vi.ev_blt, Vi.ev_isi, Vi.ev_lsc, Vi.lscK_s, Vi.cmpK_ok, Vi.ev_lc, Vi.evC_no, Vi.evC_yes, Vi.evI_e, Vi.evI_r1, Vi.evI_r2, Vi.evs_nil, Vi.evs_cons, Vi.evO_nil, Vi.evO_cons, Vi.olO_s, Vi.olOf_c, Vi.appK_s, Vi.appK2_s, Vi.ev_app, Vi.ev_mt, Vi.evT_mt, Vi.appNK_s, Vi.ev_appN, Vi.inOf_c, Vi.inK_s, Vi.inK2_s, Vi.mvixK_s, Vi.ev_mvix, Vi.ev_rev, Vi.ev_repC, Vi.evT_rev, Vi.evI_en, Vi.evI_rv, Vi.evI_rg, Vi.rgK_s, Vi.asgTK_s, Vi.ex_asgT, Vi.bwsK_nx, Vi.bwsK_ret, Vi.ex_bws, Vi.ex_rais, Vi.tryK_nx, Vi.tryK_ret, Vi.ex_try, Vi.so_ex, Vi.sb_ex, Vi.d_ex, Vi.runK_ex, Vi.calR_ex, Vi.keepE, Vi.cloF, Vi.closedR, Vi.bwK_ok, Vi.ev_bw, Vi.bwK'_ok, Vi.evT_bw, Vi.evT_chain, Vi.evT_one, Vi.evT_and, Vi.evT_or, Vi.evT_not, Vi.evT_var, Vi.evT_call, Vi.evT_isi, Vi.evT_blt, Vi.evT_ix, Vi.evT_bin, Vi.evT_bl, Vi.ex_pass, Vi.ex_asg, Vi.ex_expr, Vi.ex_ret, Vi.ex_retN, Vi.ex_if, Vi.ex_for, Vi.setK_s, Vi.setK2_s, Vi.setK3_s, Vi.ex_set, Vi.ex_aug, Vi.ex_augS, Vi.augM, Vi.augSM, Vi.exs_nil, Vi.exs_cons, Vi.run_b, Vi.runK_ret, Vi.runK_nx, Vi.frzE_nil, Vi.frz_cons, Vi.frzK_ol, Vi.frzK2_s, Vi.frzK_fz, Vi.frzK_no, Vi.frzK_olI, Vi.rdV_olI, Vi.mvV_olI, Vi.olO_olI, Vi.lent_olI, Vi.closed_olI, Vi.dOf_fz, Vi.dOf_olI, Vi.dOf_olI', Vi.dsOf_fz, Vi.dsOf_ints, Vi.dsOf_nil, Vi.dsOf_cons, Option.map_some, Vi.binD, Vi.add_int, Vi.sub_int, Vi.cmpD, Vi.lt_int, Vi.le_int, Vi.gt_int, Vi.ge_int, Vi.neg_int, Vi.bf_len_l, Vi.bf_len_t, Vi.bf_len_s, Vi.bf_abs, Vi.bf_int, Vi.bf_intb, Vi.bf_max2, Vi.bf_min2, Vi.bf_list_l, Vi.bf_list_t, Vi.bf_tup_l, Vi.bf_sum, Vi.ix_l, Vi.ix_t, Vi.ix_s, Vi.isiD, Vi.chain2_eq, Vi.chainK_b, Vi.iop_add, Vi.iop_sub, Vi.it_l, Vi.it_t, Vi.it_s, Vi.lentOk, Vi.outs_nil, Vi.outs_fz, Vi.outs_c, List.tail_cons, Vi.killE, Vi.noOwn, Vi.closed, Vi.closeds, Vi.closedD, Vi.closeds_ints, Vi.wipeE, Vi.resE, Vi.bd_nm, Vi.bd_tp, Vi.bdN, Vi.bdT, Vi.bdsN, Vi.bdNil, Vi.bdCons, Vi.Tg.js, Vi.partM, Vi.eq_int, Vi.eq_str, Vi.eq_bool, Vi.eq_ints, s1, s2, e]⟩
  have e : (upF (k - p) (min k (l.length - p))).filter (fun _ => true) = upF (k - p) (min k (l.length - p)) := by simp
  rw [e] at c
  have ba := bf_all (p := fun i => decide (sg l i = sg l (i + p))) (l := upF (k - p) (min k (l.length - p)))
  unfold locB
  generalize upF (k - p) (min k (l.length - p)) = U at h4 c ba ⊢
  generalize ((k - p : Nat) : Int) = LO at h1 h3 h4 c
  generalize ((min k (l.length - p) : Nat) : Int) = HI at h2 h3 h4 c
  generalize hA : (k : Int) - (p : Int) = A at h1
  generalize hB : (l.length : Int) - (p : Int) = B at h2
  simp -implicitDefEqProofs [den_is_near_period, bod_is_near_period, b_is_near_period_0, b_is_near_period_1, Vi.bind_ok, Vi.bind_bad, Vi.bind_ex, Vi.so_ok, Vi.sb_nx, Vi.sb_ret, Vi.sb_bad, Vi.d_fz, Vi.d_olI, Vi.d_ol, Vi.o_some, Vi.tst_b, Vi.tst_i, Vi.tst_l, Vi.tst_s, Vi.tst_n, Vi.oB_some, Vi.oP_some, Vi.oL_some, Vi.rdV_fz, Vi.rdV_ol, Vi.rdV2_some, Vi.mvV_ol, Vi.mvV_fz, Vi.rdVar_c, Vi.ev_var, Vi.ev_mv, Vi.ev_int, Vi.ev_bl, Vi.ev_non, Vi.ev_str, Vi.ev_gi, Vi.ev_gs, Vi.ev_bin, Vi.ev_neg, Vi.ev_cmp, Vi.evT_cmp, Vi.ev_chain, Vi.ev_one, Vi.andK_b, Vi.orK_b, Vi.notK_b, Vi.ev_and, Vi.ev_or, Vi.ev_not, Vi.isB_b, Vi.ev_ite, Vi.ev_tup, Vi.ev_lst, Vi.ev_ix, Vi.ev_slc, Vi.evP_no, Vi.evP_yes, Vi.ev_call, Vi.calK_some, Vi.calR_ok, Vi.evA_nil, Vi.evA_e, Vi.evA_o, Vi.args_nil, Vi.args_e, Vi.args_o, Vi.argK_s, Vi.asm_nil, Vi.asm_e, Vi.asm_o, Vi.asmK_s, Vi.lent_ol, Vi.lent_sc, Vi.lent_fz, Vi.put_nil, Vi.put_e, Vi.put_o, Vi.ev_blt, Vi.ev_isi, Vi.ev_lsc, Vi.lscK_s, Vi.cmpK_ok, Vi.ev_lc, Vi.evC_no, Vi.evC_yes, Vi.evI_e, Vi.evI_r1, Vi.evI_r2, Vi.evs_nil, Vi.evs_cons, Vi.evO_nil, Vi.evO_cons, Vi.olO_s, Vi.olOf_c, Vi.appK_s, Vi.appK2_s, Vi.ev_app, Vi.ev_mt, Vi.evT_mt, Vi.appNK_s, Vi.ev_appN, Vi.inOf_c, Vi.inK_s, Vi.inK2_s, Vi.mvixK_s, Vi.ev_mvix, Vi.ev_rev, Vi.ev_repC, Vi.evT_rev, Vi.evI_en, Vi.evI_rv, Vi.evI_rg, Vi.rgK_s, Vi.asgTK_s, Vi.ex_asgT, Vi.bwsK_nx, Vi.bwsK_ret, Vi.ex_bws, Vi.ex_rais, Vi.tryK_nx, Vi.tryK_ret, Vi.ex_try, Vi.so_ex, Vi.sb_ex, Vi.d_ex, Vi.runK_ex, Vi.calR_ex, Vi.keepE, Vi.cloF, Vi.closedR, Vi.bwK_ok, Vi.ev_bw, Vi.bwK'_ok, Vi.evT_bw, Vi.evT_chain, Vi.evT_one, Vi.evT_and, Vi.evT_or, Vi.evT_not, Vi.evT_var, Vi.evT_call, Vi.evT_isi, Vi.evT_blt, Vi.evT_ix, Vi.evT_bin, Vi.evT_bl, Vi.ex_pass, Vi.ex_asg, Vi.ex_expr, Vi.ex_ret, Vi.ex_retN, Vi.ex_if, Vi.ex_for, Vi.setK_s, Vi.setK2_s, Vi.setK3_s, Vi.ex_set, Vi.ex_aug, Vi.ex_augS, Vi.augM, Vi.augSM, Vi.exs_nil, Vi.exs_cons, Vi.run_b, Vi.runK_ret, Vi.runK_nx, Vi.frzE_nil, Vi.frz_cons, Vi.frzK_ol, Vi.frzK2_s, Vi.frzK_fz, Vi.frzK_no, Vi.frzK_olI, Vi.rdV_olI, Vi.mvV_olI, Vi.olO_olI, Vi.lent_olI, Vi.closed_olI, Vi.dOf_fz, Vi.dOf_olI, Vi.dOf_olI', Vi.dsOf_fz, Vi.dsOf_ints, Vi.dsOf_nil, Vi.dsOf_cons, Option.map_some, Vi.binD, Vi.add_int, Vi.sub_int, Vi.cmpD, Vi.lt_int, Vi.le_int, Vi.gt_int, Vi.ge_int, Vi.neg_int, Vi.bf_len_l, Vi.bf_len_t, Vi.bf_len_s, Vi.bf_abs, Vi.bf_int, Vi.bf_intb, Vi.bf_max2, Vi.bf_min2, Vi.bf_list_l, Vi.bf_list_t, Vi.bf_tup_l, Vi.bf_sum, Vi.ix_l, Vi.ix_t, Vi.ix_s, Vi.isiD, Vi.chain2_eq, Vi.chainK_b, Vi.iop_add, Vi.iop_sub, Vi.it_l, Vi.it_t, Vi.it_s, Vi.lentOk, Vi.outs_nil, Vi.outs_fz, Vi.outs_c, List.tail_cons, Vi.killE, Vi.noOwn, Vi.closed, Vi.closeds, Vi.closedD, Vi.closeds_ints, Vi.wipeE, Vi.resE, Vi.bd_nm, Vi.bd_tp, Vi.bdN, Vi.bdT, Vi.bdsN, Vi.bdNil, Vi.bdCons, Vi.Tg.js, Vi.partM, Vi.eq_int, Vi.eq_str, Vi.eq_bool, Vi.eq_ints, -Vi.bf_max2, -Vi.bf_min2, -Vi.rgK_s, tS_len, hA, hB, h1, h2, h3, h4, c, dsOf_map, dsOf_comp, ba]
theorem ok_near {l : List Nat} (hl : l.length ≤ 1000) (h1 : 1 ≤ l.length) {k : Nat} (hk : k ≤ l.length) : den_near_period [.fz (tx l), .fz (.int (k : Nat))] = .ok (.fz (.int (nearV l k : Nat))) [none, none] := by
  obtain ⟨_, b1, b2, b3, b4⟩ := near_spec h1 k
  obtain ⟨env, e1, rfl⟩ := whl_inv (tc := evT rho_near_period (.not (.call 0 (.e (.var 0) (.e (.var 1) (.e (.var 2) .nil)))))) (mb := exs rho_near_period [] b_near_period_1)
    (fun m e => ∃ p : Nat, 1 ≤ p ∧ p ≤ nearV l k ∧ m = nearV l k - p ∧ e = [some (.fz (tx l)), some (.fz (.int (k : Nat))), some (.fz (.int (p : Nat)))])
    (fun e => e = [some (.fz (tx l)), some (.fz (.int (k : Nat))), some (.fz (.int (nearV l k : Nat)))])
    (by
      rintro m e ⟨p, p1, p2, rfl, rfl⟩
      have t := ok_isn hl hk (show p ≤ l.length by omega)
      rcases Nat.lt_or_ge p (nearV l k) with q | q
      · rw [b4 p p1 q] at t
        refine Or.inr ⟨[some (.fz (tx l)), some (.fz (.int (k : Nat))), some (.fz (.int (p : Nat)))], [some (.fz (tx l)), some (.fz (.int (k : Nat))), some (.fz (.int ((p + 1 : Nat) : Int)))], _, ?_, ?_, (by omega : nearV l k - (p + 1) < nearV l k - p), p + 1, by omega, by omega, rfl, rfl⟩
        · simp -implicitDefEqProofs [Vi.bind_ok, Vi.bind_bad, Vi.bind_ex, Vi.so_ok, Vi.sb_nx, Vi.sb_ret, Vi.sb_bad, Vi.d_fz, Vi.d_olI, Vi.d_ol, Vi.o_some, Vi.tst_b, Vi.tst_i, Vi.tst_l, Vi.tst_s, Vi.tst_n, Vi.oB_some, Vi.oP_some, Vi.oL_some, Vi.rdV_fz, Vi.rdV_ol, Vi.rdV2_some, Vi.mvV_ol, Vi.mvV_fz, Vi.rdVar_c, Vi.ev_var, Vi.ev_mv, Vi.ev_int, Vi.ev_bl, Vi.ev_non, Vi.ev_str, Vi.ev_gi, Vi.ev_gs, Vi.ev_bin, Vi.ev_neg, Vi.ev_cmp, Vi.evT_cmp, Vi.ev_chain, Vi.ev_one, Vi.andK_b, Vi.orK_b, Vi.notK_b, Vi.ev_and, Vi.ev_or, Vi.ev_not, Vi.isB_b, Vi.ev_ite, Vi.ev_tup, Vi.ev_lst, Vi.ev_ix, Vi.ev_slc, Vi.evP_no, Vi.evP_yes, Vi.ev_call, Vi.calK_some, Vi.calR_ok, Vi.evA_nil, Vi.evA_e, Vi.evA_o, Vi.args_nil, Vi.args_e, Vi.args_o, Vi.argK_s, Vi.asm_nil, Vi.asm_e, Vi.asm_o, Vi.asmK_s, Vi.lent_ol, Vi.lent_sc, Vi.lent_fz, Vi.put_nil, Vi.put_e, Vi.put_o, Vi.ev_blt, Vi.ev_isi, Vi.ev_lsc, Vi.lscK_s, Vi.cmpK_ok, Vi.ev_lc, Vi.evC_no, Vi.evC_yes, Vi.evI_e, Vi.evI_r1, Vi.evI_r2, Vi.evs_nil, Vi.evs_cons, Vi.evO_nil, Vi.evO_cons, Vi.olO_s, Vi.olOf_c, Vi.appK_s, Vi.appK2_s, Vi.ev_app, Vi.ev_mt, Vi.evT_mt, Vi.appNK_s, Vi.ev_appN, Vi.inOf_c, Vi.inK_s, Vi.inK2_s, Vi.mvixK_s, Vi.ev_mvix, Vi.ev_rev, Vi.ev_repC, Vi.evT_rev, Vi.evI_en, Vi.evI_rv, Vi.evI_rg, Vi.rgK_s, Vi.asgTK_s, Vi.ex_asgT, Vi.bwsK_nx, Vi.bwsK_ret, Vi.ex_bws, Vi.ex_rais, Vi.tryK_nx, Vi.tryK_ret, Vi.ex_try, Vi.so_ex, Vi.sb_ex, Vi.d_ex, Vi.runK_ex, Vi.calR_ex, Vi.keepE, Vi.cloF, Vi.closedR, Vi.bwK_ok, Vi.ev_bw, Vi.bwK'_ok, Vi.evT_bw, Vi.evT_chain, Vi.evT_one, Vi.evT_and, Vi.evT_or, Vi.evT_not, Vi.evT_var, Vi.evT_call, Vi.evT_isi, Vi.evT_blt, Vi.evT_ix, Vi.evT_bin, Vi.evT_bl, Vi.ex_pass, Vi.ex_asg, Vi.ex_expr, Vi.ex_ret, Vi.ex_retN, Vi.ex_if, Vi.ex_for, Vi.setK_s, Vi.setK2_s, Vi.setK3_s, Vi.ex_set, Vi.ex_aug, Vi.ex_augS, Vi.augM, Vi.augSM, Vi.exs_nil, Vi.exs_cons, Vi.run_b, Vi.runK_ret, Vi.runK_nx, Vi.frzE_nil, Vi.frz_cons, Vi.frzK_ol, Vi.frzK2_s, Vi.frzK_fz, Vi.frzK_no, Vi.frzK_olI, Vi.rdV_olI, Vi.mvV_olI, Vi.olO_olI, Vi.lent_olI, Vi.closed_olI, Vi.dOf_fz, Vi.dOf_olI, Vi.dOf_olI', Vi.dsOf_fz, Vi.dsOf_ints, Vi.dsOf_nil, Vi.dsOf_cons, Option.map_some, Vi.binD, Vi.add_int, Vi.sub_int, Vi.cmpD, Vi.lt_int, Vi.le_int, Vi.gt_int, Vi.ge_int, Vi.neg_int, Vi.bf_len_l, Vi.bf_len_t, Vi.bf_len_s, Vi.bf_abs, Vi.bf_int, Vi.bf_intb, Vi.bf_max2, Vi.bf_min2, Vi.bf_list_l, Vi.bf_list_t, Vi.bf_tup_l, Vi.bf_sum, Vi.ix_l, Vi.ix_t, Vi.ix_s, Vi.isiD, Vi.chain2_eq, Vi.chainK_b, Vi.iop_add, Vi.iop_sub, Vi.it_l, Vi.it_t, Vi.it_s, Vi.lentOk, Vi.outs_nil, Vi.outs_fz, Vi.outs_c, List.tail_cons, Vi.killE, Vi.noOwn, Vi.closed, Vi.closeds, Vi.closedD, Vi.closeds_ints, Vi.wipeE, Vi.resE, Vi.bd_nm, Vi.bd_tp, Vi.bdN, Vi.bdT, Vi.bdsN, Vi.bdNil, Vi.bdCons, Vi.Tg.js, Vi.partM, Vi.eq_int, Vi.eq_str, Vi.eq_bool, Vi.eq_ints, rho_near_period, t]
        · simp -implicitDefEqProofs [b_near_period_1, Vi.bind_ok, Vi.bind_bad, Vi.bind_ex, Vi.so_ok, Vi.sb_nx, Vi.sb_ret, Vi.sb_bad, Vi.d_fz, Vi.d_olI, Vi.d_ol, Vi.o_some, Vi.tst_b, Vi.tst_i, Vi.tst_l, Vi.tst_s, Vi.tst_n, Vi.oB_some, Vi.oP_some, Vi.oL_some, Vi.rdV_fz, Vi.rdV_ol, Vi.rdV2_some, Vi.mvV_ol, Vi.mvV_fz, Vi.rdVar_c, Vi.ev_var, Vi.ev_mv, Vi.ev_int, Vi.ev_bl, Vi.ev_non, Vi.ev_str, Vi.ev_gi, Vi.ev_gs, Vi.ev_bin, Vi.ev_neg, Vi.ev_cmp, Vi.evT_cmp, Vi.ev_chain, Vi.ev_one, Vi.andK_b, Vi.orK_b, Vi.notK_b, Vi.ev_and, Vi.ev_or, Vi.ev_not, Vi.isB_b, Vi.ev_ite, Vi.ev_tup, Vi.ev_lst, Vi.ev_ix, Vi.ev_slc, Vi.evP_no, Vi.evP_yes, Vi.ev_call, Vi.calK_some, Vi.calR_ok, Vi.evA_nil, Vi.evA_e, Vi.evA_o, Vi.args_nil, Vi.args_e, Vi.args_o, Vi.argK_s, Vi.asm_nil, Vi.asm_e, Vi.asm_o, Vi.asmK_s, Vi.lent_ol, Vi.lent_sc, Vi.lent_fz, Vi.put_nil, Vi.put_e, Vi.put_o, Vi.ev_blt, Vi.ev_isi, Vi.ev_lsc, Vi.lscK_s, Vi.cmpK_ok, Vi.ev_lc, Vi.evC_no, Vi.evC_yes, Vi.evI_e, Vi.evI_r1, Vi.evI_r2, Vi.evs_nil, Vi.evs_cons, Vi.evO_nil, Vi.evO_cons, Vi.olO_s, Vi.olOf_c, Vi.appK_s, Vi.appK2_s, Vi.ev_app, Vi.ev_mt, Vi.evT_mt, Vi.appNK_s, Vi.ev_appN, Vi.inOf_c, Vi.inK_s, Vi.inK2_s, Vi.mvixK_s, Vi.ev_mvix, Vi.ev_rev, Vi.ev_repC, Vi.evT_rev, Vi.evI_en, Vi.evI_rv, Vi.evI_rg, Vi.rgK_s, Vi.asgTK_s, Vi.ex_asgT, Vi.bwsK_nx, Vi.bwsK_ret, Vi.ex_bws, Vi.ex_rais, Vi.tryK_nx, Vi.tryK_ret, Vi.ex_try, Vi.so_ex, Vi.sb_ex, Vi.d_ex, Vi.runK_ex, Vi.calR_ex, Vi.keepE, Vi.cloF, Vi.closedR, Vi.bwK_ok, Vi.ev_bw, Vi.bwK'_ok, Vi.evT_bw, Vi.evT_chain, Vi.evT_one, Vi.evT_and, Vi.evT_or, Vi.evT_not, Vi.evT_var, Vi.evT_call, Vi.evT_isi, Vi.evT_blt, Vi.evT_ix, Vi.evT_bin, Vi.evT_bl, Vi.ex_pass, Vi.ex_asg, Vi.ex_expr, Vi.ex_ret, Vi.ex_retN, Vi.ex_if, Vi.ex_for, Vi.setK_s, Vi.setK2_s, Vi.setK3_s, Vi.ex_set, Vi.ex_aug, Vi.ex_augS, Vi.augM, Vi.augSM, Vi.exs_nil, Vi.exs_cons, Vi.run_b, Vi.runK_ret, Vi.runK_nx, Vi.frzE_nil, Vi.frz_cons, Vi.frzK_ol, Vi.frzK2_s, Vi.frzK_fz, Vi.frzK_no, Vi.frzK_olI, Vi.rdV_olI, Vi.mvV_olI, Vi.olO_olI, Vi.lent_olI, Vi.closed_olI, Vi.dOf_fz, Vi.dOf_olI, Vi.dOf_olI', Vi.dsOf_fz, Vi.dsOf_ints, Vi.dsOf_nil, Vi.dsOf_cons, Option.map_some, Vi.binD, Vi.add_int, Vi.sub_int, Vi.cmpD, Vi.lt_int, Vi.le_int, Vi.gt_int, Vi.ge_int, Vi.neg_int, Vi.bf_len_l, Vi.bf_len_t, Vi.bf_len_s, Vi.bf_abs, Vi.bf_int, Vi.bf_intb, Vi.bf_max2, Vi.bf_min2, Vi.bf_list_l, Vi.bf_list_t, Vi.bf_tup_l, Vi.bf_sum, Vi.ix_l, Vi.ix_t, Vi.ix_s, Vi.isiD, Vi.chain2_eq, Vi.chainK_b, Vi.iop_add, Vi.iop_sub, Vi.it_l, Vi.it_t, Vi.it_s, Vi.lentOk, Vi.outs_nil, Vi.outs_fz, Vi.outs_c, List.tail_cons, Vi.killE, Vi.noOwn, Vi.closed, Vi.closeds, Vi.closedD, Vi.closeds_ints, Vi.wipeE, Vi.resE, Vi.bd_nm, Vi.bd_tp, Vi.bdN, Vi.bdT, Vi.bdsN, Vi.bdNil, Vi.bdCons, Vi.Tg.js, Vi.partM, Vi.eq_int, Vi.eq_str, Vi.eq_bool, Vi.eq_ints]
      · have e : p = nearV l k := by omega
        subst e
        rw [b3] at t
        generalize nearV l k = N at t
        exact Or.inl ⟨[some (.fz (tx l)), some (.fz (.int (k : Nat))), some (.fz (.int (N : Nat)))], by simp -implicitDefEqProofs [Vi.bind_ok, Vi.bind_bad, Vi.bind_ex, Vi.so_ok, Vi.sb_nx, Vi.sb_ret, Vi.sb_bad, Vi.d_fz, Vi.d_olI, Vi.d_ol, Vi.o_some, Vi.tst_b, Vi.tst_i, Vi.tst_l, Vi.tst_s, Vi.tst_n, Vi.oB_some, Vi.oP_some, Vi.oL_some, Vi.rdV_fz, Vi.rdV_ol, Vi.rdV2_some, Vi.mvV_ol, Vi.mvV_fz, Vi.rdVar_c, Vi.ev_var, Vi.ev_mv, Vi.ev_int, Vi.ev_bl, Vi.ev_non, Vi.ev_str, Vi.ev_gi, Vi.ev_gs, Vi.ev_bin, Vi.ev_neg, Vi.ev_cmp, Vi.evT_cmp, Vi.ev_chain, Vi.ev_one, Vi.andK_b, Vi.orK_b, Vi.notK_b, Vi.ev_and, Vi.ev_or, Vi.ev_not, Vi.isB_b, Vi.ev_ite, Vi.ev_tup, Vi.ev_lst, Vi.ev_ix, Vi.ev_slc, Vi.evP_no, Vi.evP_yes, Vi.ev_call, Vi.calK_some, Vi.calR_ok, Vi.evA_nil, Vi.evA_e, Vi.evA_o, Vi.args_nil, Vi.args_e, Vi.args_o, Vi.argK_s, Vi.asm_nil, Vi.asm_e, Vi.asm_o, Vi.asmK_s, Vi.lent_ol, Vi.lent_sc, Vi.lent_fz, Vi.put_nil, Vi.put_e, Vi.put_o, Vi.ev_blt, Vi.ev_isi, Vi.ev_lsc, Vi.lscK_s, Vi.cmpK_ok, Vi.ev_lc, Vi.evC_no, Vi.evC_yes, Vi.evI_e, Vi.evI_r1, Vi.evI_r2, Vi.evs_nil, Vi.evs_cons, Vi.evO_nil, Vi.evO_cons, Vi.olO_s, Vi.olOf_c, Vi.appK_s, Vi.appK2_s, Vi.ev_app, Vi.ev_mt, Vi.evT_mt, Vi.appNK_s, Vi.ev_appN, Vi.inOf_c, Vi.inK_s, Vi.inK2_s, Vi.mvixK_s, Vi.ev_mvix, Vi.ev_rev, Vi.ev_repC, Vi.evT_rev, Vi.evI_en, Vi.evI_rv, Vi.evI_rg, Vi.rgK_s, Vi.asgTK_s, Vi.ex_asgT, Vi.bwsK_nx, Vi.bwsK_ret, Vi.ex_bws, Vi.ex_rais, Vi.tryK_nx, Vi.tryK_ret, Vi.ex_try, Vi.so_ex, Vi.sb_ex, Vi.d_ex, Vi.runK_ex, Vi.calR_ex, Vi.keepE, Vi.cloF, Vi.closedR, Vi.bwK_ok, Vi.ev_bw, Vi.bwK'_ok, Vi.evT_bw, Vi.evT_chain, Vi.evT_one, Vi.evT_and, Vi.evT_or, Vi.evT_not, Vi.evT_var, Vi.evT_call, Vi.evT_isi, Vi.evT_blt, Vi.evT_ix, Vi.evT_bin, Vi.evT_bl, Vi.ex_pass, Vi.ex_asg, Vi.ex_expr, Vi.ex_ret, Vi.ex_retN, Vi.ex_if, Vi.ex_for, Vi.setK_s, Vi.setK2_s, Vi.setK3_s, Vi.ex_set, Vi.ex_aug, Vi.ex_augS, Vi.augM, Vi.augSM, Vi.exs_nil, Vi.exs_cons, Vi.run_b, Vi.runK_ret, Vi.runK_nx, Vi.frzE_nil, Vi.frz_cons, Vi.frzK_ol, Vi.frzK2_s, Vi.frzK_fz, Vi.frzK_no, Vi.frzK_olI, Vi.rdV_olI, Vi.mvV_olI, Vi.olO_olI, Vi.lent_olI, Vi.closed_olI, Vi.dOf_fz, Vi.dOf_olI, Vi.dOf_olI', Vi.dsOf_fz, Vi.dsOf_ints, Vi.dsOf_nil, Vi.dsOf_cons, Option.map_some, Vi.binD, Vi.add_int, Vi.sub_int, Vi.cmpD, Vi.lt_int, Vi.le_int, Vi.gt_int, Vi.ge_int, Vi.neg_int, Vi.bf_len_l, Vi.bf_len_t, Vi.bf_len_s, Vi.bf_abs, Vi.bf_int, Vi.bf_intb, Vi.bf_max2, Vi.bf_min2, Vi.bf_list_l, Vi.bf_list_t, Vi.bf_tup_l, Vi.bf_sum, Vi.ix_l, Vi.ix_t, Vi.ix_s, Vi.isiD, Vi.chain2_eq, Vi.chainK_b, Vi.iop_add, Vi.iop_sub, Vi.it_l, Vi.it_t, Vi.it_s, Vi.lentOk, Vi.outs_nil, Vi.outs_fz, Vi.outs_c, List.tail_cons, Vi.killE, Vi.noOwn, Vi.closed, Vi.closeds, Vi.closedD, Vi.closeds_ints, Vi.wipeE, Vi.resE, Vi.bd_nm, Vi.bd_tp, Vi.bdN, Vi.bdT, Vi.bdsN, Vi.bdNil, Vi.bdCons, Vi.Tg.js, Vi.partM, Vi.eq_int, Vi.eq_str, Vi.eq_bool, Vi.eq_ints, rho_near_period, t], rfl⟩) 1000000 (nearV l k - 1) [some (.fz (tx l)), some (.fz (.int (k : Nat))), some (.fz (.int ((1 : Nat) : Int)))] (by omega) ⟨1, Nat.le_refl _, b1, rfl, rfl⟩
  have e0 : ((1 : Nat) : Int) = 1 := rfl
  rw [e0] at e1
  generalize nearV l k = N at e1 ⊢
  simp -implicitDefEqProofs [den_near_period, bod_near_period, b_near_period_3, b_near_period_2, b_near_period_0, Vi.bind_ok, Vi.bind_bad, Vi.bind_ex, Vi.so_ok, Vi.sb_nx, Vi.sb_ret, Vi.sb_bad, Vi.d_fz, Vi.d_olI, Vi.d_ol, Vi.o_some, Vi.tst_b, Vi.tst_i, Vi.tst_l, Vi.tst_s, Vi.tst_n, Vi.oB_some, Vi.oP_some, Vi.oL_some, Vi.rdV_fz, Vi.rdV_ol, Vi.rdV2_some, Vi.mvV_ol, Vi.mvV_fz, Vi.rdVar_c, Vi.ev_var, Vi.ev_mv, Vi.ev_int, Vi.ev_bl, Vi.ev_non, Vi.ev_str, Vi.ev_gi, Vi.ev_gs, Vi.ev_bin, Vi.ev_neg, Vi.ev_cmp, Vi.evT_cmp, Vi.ev_chain, Vi.ev_one, Vi.andK_b, Vi.orK_b, Vi.notK_b, Vi.ev_and, Vi.ev_or, Vi.ev_not, Vi.isB_b, Vi.ev_ite, Vi.ev_tup, Vi.ev_lst, Vi.ev_ix, Vi.ev_slc, Vi.evP_no, Vi.evP_yes, Vi.ev_call, Vi.calK_some, Vi.calR_ok, Vi.evA_nil, Vi.evA_e, Vi.evA_o, Vi.args_nil, Vi.args_e, Vi.args_o, Vi.argK_s, Vi.asm_nil, Vi.asm_e, Vi.asm_o, Vi.asmK_s, Vi.lent_ol, Vi.lent_sc, Vi.lent_fz, Vi.put_nil, Vi.put_e, Vi.put_o, Vi.ev_blt, Vi.ev_isi, Vi.ev_lsc, Vi.lscK_s, Vi.cmpK_ok, Vi.ev_lc, Vi.evC_no, Vi.evC_yes, Vi.evI_e, Vi.evI_r1, Vi.evI_r2, Vi.evs_nil, Vi.evs_cons, Vi.evO_nil, Vi.evO_cons, Vi.olO_s, Vi.olOf_c, Vi.appK_s, Vi.appK2_s, Vi.ev_app, Vi.ev_mt, Vi.evT_mt, Vi.appNK_s, Vi.ev_appN, Vi.inOf_c, Vi.inK_s, Vi.inK2_s, Vi.mvixK_s, Vi.ev_mvix, Vi.ev_rev, Vi.ev_repC, Vi.evT_rev, Vi.evI_en, Vi.evI_rv, Vi.evI_rg, Vi.rgK_s, Vi.asgTK_s, Vi.ex_asgT, Vi.bwsK_nx, Vi.bwsK_ret, Vi.ex_bws, Vi.ex_rais, Vi.tryK_nx, Vi.tryK_ret, Vi.ex_try, Vi.so_ex, Vi.sb_ex, Vi.d_ex, Vi.runK_ex, Vi.calR_ex, Vi.keepE, Vi.cloF, Vi.closedR, Vi.bwK_ok, Vi.ev_bw, Vi.bwK'_ok, Vi.evT_bw, Vi.evT_chain, Vi.evT_one, Vi.evT_and, Vi.evT_or, Vi.evT_not, Vi.evT_var, Vi.evT_call, Vi.evT_isi, Vi.evT_blt, Vi.evT_ix, Vi.evT_bin, Vi.evT_bl, Vi.ex_pass, Vi.ex_asg, Vi.ex_expr, Vi.ex_ret, Vi.ex_retN, Vi.ex_if, Vi.ex_for, Vi.setK_s, Vi.setK2_s, Vi.setK3_s, Vi.ex_set, Vi.ex_aug, Vi.ex_augS, Vi.augM, Vi.augSM, Vi.exs_nil, Vi.exs_cons, Vi.run_b, Vi.runK_ret, Vi.runK_nx, Vi.frzE_nil, Vi.frz_cons, Vi.frzK_ol, Vi.frzK2_s, Vi.frzK_fz, Vi.frzK_no, Vi.frzK_olI, Vi.rdV_olI, Vi.mvV_olI, Vi.olO_olI, Vi.lent_olI, Vi.closed_olI, Vi.dOf_fz, Vi.dOf_olI, Vi.dOf_olI', Vi.dsOf_fz, Vi.dsOf_ints, Vi.dsOf_nil, Vi.dsOf_cons, Option.map_some, Vi.binD, Vi.add_int, Vi.sub_int, Vi.cmpD, Vi.lt_int, Vi.le_int, Vi.gt_int, Vi.ge_int, Vi.neg_int, Vi.bf_len_l, Vi.bf_len_t, Vi.bf_len_s, Vi.bf_abs, Vi.bf_int, Vi.bf_intb, Vi.bf_max2, Vi.bf_min2, Vi.bf_list_l, Vi.bf_list_t, Vi.bf_tup_l, Vi.bf_sum, Vi.ix_l, Vi.ix_t, Vi.ix_s, Vi.isiD, Vi.chain2_eq, Vi.chainK_b, Vi.iop_add, Vi.iop_sub, Vi.it_l, Vi.it_t, Vi.it_s, Vi.lentOk, Vi.outs_nil, Vi.outs_fz, Vi.outs_c, List.tail_cons, Vi.killE, Vi.noOwn, Vi.closed, Vi.closeds, Vi.closedD, Vi.closeds_ints, Vi.wipeE, Vi.resE, Vi.bd_nm, Vi.bd_tp, Vi.bdN, Vi.bdT, Vi.bdsN, Vi.bdNil, Vi.bdCons, Vi.Tg.js, Vi.partM, Vi.eq_int, Vi.eq_str, Vi.eq_bool, Vi.eq_ints, Vi.ex_whl, e1]
/-- the near periods of all places -/
abbrev nearL (l : List Nat) : List Nat := (upF 1 l.length).map (nearV l)
theorem ok_nears {l : List Nat} (hl : l.length ≤ 1000) (h1 : 1 ≤ l.length) : den_near_periods [.fz (tx l)] = .ok (.ol ((nearL l).map fun i => .fz (.int (i : Nat)))) [none] := by
  have rr : rngD [.int 1, .int (l.length : Int)] = some ((upF 1 l.length).map fun i => .int (i : Nat)) := rng_upF (m := 1) (by omega) (by omega)
  have c : compL (bdG (.nm 1)) (evC rho_near_periods .no) (ev rho_near_periods (.call 0 (.e (.var 0) (.e (.var 1) .nil)))) [1] ((upF 1 l.length).map fun i => .int (i : Nat)) [some (.fz (tx l)), none] = .ok (((upF 1 l.length).filter fun _ => true).map fun i => .fz (.int (nearV l i : Nat))) [some (.fz (tx l)), none] := by
    refine compL_fm (fun _ => true) (fun i => .fz (.int (nearV l i : Nat))) _ fun x hx => ?_
    have hx := mem_upF.mp hx
    have t := ok_near hl h1 (show x ≤ l.length by omega)
    generalize nearV l x = N at t ⊢
    exact ⟨[some (.fz (tx l)), some (.fz (.int (x : Nat)))], [some (.fz (tx l)), some (.fz (.int (x : Nat)))], by simp -implicitDefEqProofs [Vi.bind_ok, Vi.bind_bad, Vi.bind_ex, Vi.so_ok, Vi.sb_nx, Vi.sb_ret, Vi.sb_bad, Vi.d_fz, Vi.d_olI, Vi.d_ol, Vi.o_some, Vi.tst_b, Vi.tst_i, Vi.tst_l, Vi.tst_s, Vi.tst_n, Vi.oB_some, Vi.oP_some, Vi.oL_some, Vi.rdV_fz, Vi.rdV_ol, Vi.rdV2_some, Vi.mvV_ol, Vi.mvV_fz, Vi.rdVar_c, Vi.ev_var, Vi.ev_mv, Vi.ev_int, Vi.ev_bl, Vi.ev_non, Vi.ev_str, Vi.ev_gi, Vi.ev_gs, Vi.ev_bin, Vi.ev_neg, Vi.ev_cmp, Vi.evT_cmp, Vi.ev_chain, Vi.ev_one, Vi.andK_b, Vi.orK_b, Vi.notK_b, Vi.ev_and, Vi.ev_or, Vi.ev_not, Vi.isB_b, Vi.ev_ite, Vi.ev_tup, Vi.ev_lst, Vi.ev_ix, Vi.ev_slc, Vi.evP_no, Vi.evP_yes, Vi.ev_call, Vi.calK_some, Vi.calR_ok, Vi.evA_nil, Vi.evA_e, Vi.evA_o, Vi.args_nil, Vi.args_e, Vi.args_o, Vi.argK_s, Vi.asm_nil, Vi.asm_e, Vi.asm_o, Vi.asmK_s, Vi.lent_ol, Vi.lent_sc, Vi.lent_fz, Vi.put_nil, Vi.put_e, Vi.put_o, Vi.ev_blt, Vi.ev_isi, Vi.ev_lsc, Vi.lscK_s, Vi.cmpK_ok, Vi.ev_lc, Vi.evC_no, Vi.evC_yes, Vi.evI_e, Vi.evI_r1, Vi.evI_r2, Vi.evs_nil, Vi.evs_cons, Vi.evO_nil, Vi.evO_cons, Vi.olO_s, Vi.olOf_c, Vi.appK_s, Vi.appK2_s, Vi.ev_app, Vi.ev_mt, Vi.evT_mt, Vi.appNK_s, Vi.ev_appN, Vi.inOf_c, Vi.inK_s, Vi.inK2_s, Vi.mvixK_s, Vi.ev_mvix, Vi.ev_rev, Vi.ev_repC, Vi.evT_rev, Vi.evI_en, Vi.evI_rv, Vi.evI_rg, Vi.rgK_s, Vi.asgTK_s, Vi.ex_asgT, Vi.bwsK_nx, Vi.bwsK_ret, Vi.ex_bws, Vi.ex_rais, Vi.tryK_nx, Vi.tryK_ret, Vi.ex_try, Vi.so_ex, Vi.sb_ex, Vi.d_ex, Vi.runK_ex, Vi.calR_ex, Vi.keepE, Vi.cloF, Vi.closedR, Vi.bwK_ok, Vi.ev_bw, Vi.bwK'_ok, Vi.evT_bw, Vi.evT_chain, Vi.evT_one, Vi.evT_and, Vi.evT_or, Vi.evT_not, Vi.evT_var, Vi.evT_call, Vi.evT_isi, Vi.evT_blt, Vi.evT_ix, Vi.evT_bin, Vi.evT_bl, Vi.ex_pass, Vi.ex_asg, Vi.ex_expr, Vi.ex_ret, Vi.ex_retN, Vi.ex_if, Vi.ex_for, Vi.setK_s, Vi.setK2_s, Vi.setK3_s, Vi.ex_set, Vi.ex_aug, Vi.ex_augS, Vi.augM, Vi.augSM, Vi.exs_nil, Vi.exs_cons, Vi.run_b, Vi.runK_ret, Vi.runK_nx, Vi.frzE_nil, Vi.frz_cons, Vi.frzK_ol, Vi.frzK2_s, Vi.frzK_fz, Vi.frzK_no, Vi.frzK_olI, Vi.rdV_olI, Vi.mvV_olI, Vi.olO_olI, Vi.lent_olI, Vi.closed_olI, Vi.dOf_fz, Vi.dOf_olI, Vi.dOf_olI', Vi.dsOf_fz, Vi.dsOf_ints, Vi.dsOf_nil, Vi.dsOf_cons, Option.map_some, Vi.binD, Vi.add_int, Vi.sub_int, Vi.cmpD, Vi.lt_int, Vi.le_int, Vi.gt_int, Vi.ge_int, Vi.neg_int, Vi.bf_len_l, Vi.bf_len_t, Vi.bf_len_s, Vi.bf_abs, Vi.bf_int, Vi.bf_intb, Vi.bf_max2, Vi.bf_min2, Vi.bf_list_l, Vi.bf_list_t, Vi.bf_tup_l, Vi.bf_sum, Vi.ix_l, Vi.ix_t, Vi.ix_s, Vi.isiD, Vi.chain2_eq, Vi.chainK_b, Vi.iop_add, Vi.iop_sub, Vi.it_l, Vi.it_t, Vi.it_s, Vi.lentOk, Vi.outs_nil, Vi.outs_fz, Vi.outs_c, List.tail_cons, Vi.killE, Vi.noOwn, Vi.closed, Vi.closeds, Vi.closedD, Vi.closeds_ints, Vi.wipeE, Vi.resE, Vi.bd_nm, Vi.bd_tp, Vi.bdN, Vi.bdT, Vi.bdsN, Vi.bdNil, Vi.bdCons, Vi.Tg.js, Vi.partM, Vi.eq_int, Vi.eq_str, Vi.eq_bool, Vi.eq_ints], by simp -implicitDefEqProofs [Vi.bind_ok, Vi.bind_bad, Vi.bind_ex, Vi.so_ok, Vi.sb_nx, Vi.sb_ret, Vi.sb_bad, Vi.d_fz, Vi.d_olI, Vi.d_ol, Vi.o_some, Vi.tst_b, Vi.tst_i, Vi.tst_l, Vi.tst_s, Vi.tst_n, Vi.oB_some, Vi.oP_some, Vi.oL_some, Vi.rdV_fz, Vi.rdV_ol, Vi.rdV2_some, Vi.mvV_ol, Vi.mvV_fz, Vi.rdVar_c, Vi.ev_var, Vi.ev_mv, Vi.ev_int, Vi.ev_bl, Vi.ev_non, Vi.ev_str, Vi.ev_gi, Vi.ev_gs, Vi.ev_bin, Vi.ev_neg, Vi.ev_cmp, Vi.evT_cmp, Vi.ev_chain, Vi.ev_one, Vi.andK_b, Vi.orK_b, Vi.notK_b, Vi.ev_and, Vi.ev_or, Vi.ev_not, Vi.isB_b, Vi.ev_ite, Vi.ev_tup, Vi.ev_lst, Vi.ev_ix, Vi.ev_slc, Vi.evP_no, Vi.evP_yes, Vi.ev_call, Vi.calK_some, Vi.calR_ok, Vi.evA_nil, Vi.evA_e, Vi.evA_o, Vi.args_nil, Vi.args_e, Vi.args_o, Vi.argK_s, Vi.asm_nil, Vi.asm_e, Vi.asm_o, Vi.asmK_s, Vi.lent_ol, Vi.lent_sc, Vi.lent_fz, Vi.put_nil, Vi.put_e, Vi.put_o, Vi.ev_blt, Vi.ev_isi, Vi.ev_lsc, Vi.lscK_s, Vi.cmpK_ok, Vi.ev_lc, Vi.evC_no, Vi.evC_yes, Vi.evI_e, Vi.evI_r1, Vi.evI_r2, Vi.evs_nil, Vi.evs_cons, Vi.evO_nil, Vi.evO_cons, Vi.olO_s, Vi.olOf_c, Vi.appK_s, Vi.appK2_s, Vi.ev_app, Vi.ev_mt, Vi.evT_mt, Vi.appNK_s, Vi.ev_appN, Vi.inOf_c, Vi.inK_s, Vi.inK2_s, Vi.mvixK_s, Vi.ev_mvix, Vi.ev_rev, Vi.ev_repC, Vi.evT_rev, Vi.evI_en, Vi.evI_rv, Vi.evI_rg, Vi.rgK_s, Vi.asgTK_s, Vi.ex_asgT, Vi.bwsK_nx, Vi.bwsK_ret, Vi.ex_bws, Vi.ex_rais, Vi.tryK_nx, Vi.tryK_ret, Vi.ex_try, Vi.so_ex, Vi.sb_ex, Vi.d_ex, Vi.runK_ex, Vi.calR_ex, Vi.keepE, Vi.cloF, Vi.closedR, Vi.bwK_ok, Vi.ev_bw, Vi.bwK'_ok, Vi.evT_bw, Vi.evT_chain, Vi.evT_one, Vi.evT_and, Vi.evT_or, Vi.evT_not, Vi.evT_var, Vi.evT_call, Vi.evT_isi, Vi.evT_blt, Vi.evT_ix, Vi.evT_bin, Vi.evT_bl, Vi.ex_pass, Vi.ex_asg, Vi.ex_expr, Vi.ex_ret, Vi.ex_retN, Vi.ex_if, Vi.ex_for, Vi.setK_s, Vi.setK2_s, Vi.setK3_s, Vi.ex_set, Vi.ex_aug, Vi.ex_augS, Vi.augM, Vi.augSM, Vi.exs_nil, Vi.exs_cons, Vi.run_b, Vi.runK_ret, Vi.runK_nx, Vi.frzE_nil, Vi.frz_cons, Vi.frzK_ol, Vi.frzK2_s, Vi.frzK_fz, Vi.frzK_no, Vi.frzK_olI, Vi.rdV_olI, Vi.mvV_olI, Vi.olO_olI, Vi.lent_olI, Vi.closed_olI, Vi.dOf_fz, Vi.dOf_olI, Vi.dOf_olI', Vi.dsOf_fz, Vi.dsOf_ints, Vi.dsOf_nil, Vi.dsOf_cons, Option.map_some, Vi.binD, Vi.add_int, Vi.sub_int, Vi.cmpD, Vi.lt_int, Vi.le_int, Vi.gt_int, Vi.ge_int, Vi.neg_int, Vi.bf_len_l, Vi.bf_len_t, Vi.bf_len_s, Vi.bf_abs, Vi.bf_int, Vi.bf_intb, Vi.bf_max2, Vi.bf_min2, Vi.bf_list_l, Vi.bf_list_t, Vi.bf_tup_l, Vi.bf_sum, Vi.ix_l, Vi.ix_t, Vi.ix_s, Vi.isiD, Vi.chain2_eq, Vi.chainK_b, Vi.iop_add, Vi.iop_sub, Vi.it_l, Vi.it_t, Vi.it_s, Vi.lentOk, Vi.outs_nil, Vi.outs_fz, Vi.outs_c, List.tail_cons, Vi.killE, Vi.noOwn, Vi.closed, Vi.closeds, Vi.closedD, Vi.closeds_ints, Vi.wipeE, Vi.resE, Vi.bd_nm, Vi.bd_tp, Vi.bdN, Vi.bdT, Vi.bdsN, Vi.bdNil, Vi.bdCons, Vi.Tg.js, Vi.partM, Vi.eq_int, Vi.eq_str, Vi.eq_bool, Vi.eq_ints], by simp -implicitDefEqProofs [Vi.bind_ok, Vi.bind_bad, Vi.bind_ex, Vi.so_ok, Vi.sb_nx, Vi.sb_ret, Vi.sb_bad, Vi.d_fz, Vi.d_olI, Vi.d_ol, Vi.o_some, Vi.tst_b, Vi.tst_i, Vi.tst_l, Vi.tst_s, Vi.tst_n, Vi.oB_some, Vi.oP_some, Vi.oL_some, Vi.rdV_fz, Vi.rdV_ol, Vi.rdV2_some, Vi.mvV_ol, Vi.mvV_fz, Vi.rdVar_c, Vi.ev_var, Vi.ev_mv, Vi.ev_int, Vi.ev_bl, Vi.ev_non, Vi.ev_str, Vi.ev_gi, Vi.ev_gs, Vi.ev_bin, Vi.ev_neg, Vi.ev_cmp, Vi.evT_cmp, Vi.ev_chain, Vi.ev_one, Vi.andK_b, Vi.orK_b, Vi.notK_b, Vi.ev_and, Vi.ev_or, Vi.ev_not, Vi.isB_b, Vi.ev_ite, Vi.ev_tup, Vi.ev_lst, Vi.ev_ix, Vi.ev_slc, Vi.evP_no, Vi.evP_yes, Vi.ev_call, Vi.calK_some, Vi.calR_ok, Vi.evA_nil, Vi.evA_e, Vi.evA_o, Vi.args_nil, Vi.args_e, Vi.args_o, Vi.argK_s, Vi.asm_nil, Vi.asm_e, Vi.asm_o, Vi.asmK_s, Vi.lent_ol, Vi.lent_sc, Vi.lent_fz, Vi.put_nil, Vi.put_e, Vi.put_o, Vi.ev_blt, Vi.ev_isi, Vi.ev_lsc, Vi.lscK_s, Vi.cmpK_ok, Vi.ev_lc, Vi.evC_no, Vi.evC_yes, Vi.evI_e, Vi.evI_r1, Vi.evI_r2, Vi.evs_nil, Vi.evs_cons, Vi.evO_nil, Vi.evO_cons, Vi.olO_s, Vi.olOf_c, Vi.appK_s, Vi.appK2_s, Vi.ev_app, Vi.ev_mt, Vi.evT_mt, Vi.appNK_s, Vi.ev_appN, Vi.inOf_c, Vi.inK_s, Vi.inK2_s, Vi.mvixK_s, Vi.ev_mvix, Vi.ev_rev, Vi.ev_repC, Vi.evT_rev, Vi.evI_en, Vi.evI_rv, Vi.evI_rg, Vi.rgK_s, Vi.asgTK_s, Vi.ex_asgT, Vi.bwsK_nx, Vi.bwsK_ret, Vi.ex_bws, Vi.ex_rais, Vi.tryK_nx, Vi.tryK_ret, Vi.ex_try, Vi.so_ex, Vi.sb_ex, Vi.d_ex, Vi.runK_ex, Vi.calR_ex, Vi.keepE, Vi.cloF, Vi.closedR, Vi.bwK_ok, Vi.ev_bw, Vi.bwK'_ok, Vi.evT_bw, Vi.evT_chain, Vi.evT_one, Vi.evT_and, Vi.evT_or, Vi.evT_not, Vi.evT_var, Vi.evT_call, Vi.evT_isi, Vi.evT_blt, Vi.evT_ix, Vi.evT_bin, Vi.evT_bl, Vi.ex_pass, Vi.ex_asg, Vi.ex_expr, Vi.ex_ret, Vi.ex_retN, Vi.ex_if, Vi.ex_for, Vi.setK_s, Vi.setK2_s, Vi.setK3_s, Vi.ex_set, Vi.ex_aug, Vi.ex_augS, Vi.augM, Vi.augSM, Vi.exs_nil, Vi.exs_cons, Vi.run_b, Vi.runK_ret, Vi.runK_nx, Vi.frzE_nil, Vi.frz_cons, Vi.frzK_ol, Vi.frzK2_s, Vi.frzK_fz, Vi.frzK_no, Vi.frzK_olI, Vi.rdV_olI, Vi.mvV_olI, Vi.olO_olI, Vi.lent_olI, Vi.closed_olI, Vi.dOf_fz, Vi.dOf_olI, Vi.dOf_olI', Vi.dsOf_fz, Vi.dsOf_ints, Vi.dsOf_nil, Vi.dsOf_cons, Option.map_some, Vi.binD, Vi.add_int, Vi.sub_int, Vi.cmpD, Vi.lt_int, Vi.le_int, Vi.gt_int, Vi.ge_int, Vi.neg_int, Vi.bf_len_l, Vi.bf_len_t, Vi.bf_len_s, Vi.bf_abs, Vi.bf_int, Vi.bf_intb, Vi.bf_max2, Vi.bf_min2, Vi.bf_list_l, Vi.bf_list_t, Vi.bf_tup_l, Vi.bf_sum, Vi.ix_l, Vi.ix_t, Vi.ix_s, Vi.isiD, Vi.chain2_eq, Vi.chainK_b, Vi.iop_add, Vi.iop_sub, Vi.it_l, Vi.it_t, Vi.it_s, Vi.lentOk, Vi.outs_nil, Vi.outs_fz, Vi.outs_c, List.tail_cons, Vi.killE, Vi.noOwn, Vi.closed, Vi.closeds, Vi.closedD, Vi.closeds_ints, Vi.wipeE, Vi.resE, Vi.bd_nm, Vi.bd_tp, Vi.bdN, Vi.bdT, Vi.bdsN, Vi.bdNil, Vi.bdCons, Vi.Tg.js, Vi.partM, Vi.eq_int, Vi.eq_str, Vi.eq_bool, Vi.eq_ints, rho_near_periods, t]⟩
  have e : (upF 1 l.length).filter (fun _ => true) = upF 1 l.length := by simp
  rw [e] at c
  have e2 : (nearL l).map (fun i => OV.fz (.int (i : Nat))) = (upF 1 l.length).map fun i => .fz (.int (nearV l i : Nat)) := by rw [List.map_map]; rfl
  rw [e2]
  generalize (upF 1 l.length).map (fun i => OV.fz (.int (nearV l i : Nat))) = R at c ⊢
  simp -implicitDefEqProofs [den_near_periods, bod_near_periods, b_near_periods_0, Vi.bind_ok, Vi.bind_bad, Vi.bind_ex, Vi.so_ok, Vi.sb_nx, Vi.sb_ret, Vi.sb_bad, Vi.d_fz, Vi.d_olI, Vi.d_ol, Vi.o_some, Vi.tst_b, Vi.tst_i, Vi.tst_l, Vi.tst_s, Vi.tst_n, Vi.oB_some, Vi.oP_some, Vi.oL_some, Vi.rdV_fz, Vi.rdV_ol, Vi.rdV2_some, Vi.mvV_ol, Vi.mvV_fz, Vi.rdVar_c, Vi.ev_var, Vi.ev_mv, Vi.ev_int, Vi.ev_bl, Vi.ev_non, Vi.ev_str, Vi.ev_gi, Vi.ev_gs, Vi.ev_bin, Vi.ev_neg, Vi.ev_cmp, Vi.evT_cmp, Vi.ev_chain, Vi.ev_one, Vi.andK_b, Vi.orK_b, Vi.notK_b, Vi.ev_and, Vi.ev_or, Vi.ev_not, Vi.isB_b, Vi.ev_ite, Vi.ev_tup, Vi.ev_lst, Vi.ev_ix, Vi.ev_slc, Vi.evP_no, Vi.evP_yes, Vi.ev_call, Vi.calK_some, Vi.calR_ok, Vi.evA_nil, Vi.evA_e, Vi.evA_o, Vi.args_nil, Vi.args_e, Vi.args_o, Vi.argK_s, Vi.asm_nil, Vi.asm_e, Vi.asm_o, Vi.asmK_s, Vi.lent_ol, Vi.lent_sc, Vi.lent_fz, Vi.put_nil, Vi.put_e, Vi.put_o, Vi.ev_blt, Vi.ev_isi, Vi.ev_lsc, Vi.lscK_s, Vi.cmpK_ok, Vi.ev_lc, Vi.evC_no, Vi.evC_yes, Vi.evI_e, Vi.evI_r1, Vi.evI_r2, Vi.evs_nil, Vi.evs_cons, Vi.evO_nil, Vi.evO_cons, Vi.olO_s, Vi.olOf_c, Vi.appK_s, Vi.appK2_s, Vi.ev_app, Vi.ev_mt, Vi.evT_mt, Vi.appNK_s, Vi.ev_appN, Vi.inOf_c, Vi.inK_s, Vi.inK2_s, Vi.mvixK_s, Vi.ev_mvix, Vi.ev_rev, Vi.ev_repC, Vi.evT_rev, Vi.evI_en, Vi.evI_rv, Vi.evI_rg, Vi.rgK_s, Vi.asgTK_s, Vi.ex_asgT, Vi.bwsK_nx, Vi.bwsK_ret, Vi.ex_bws, Vi.ex_rais, Vi.tryK_nx, Vi.tryK_ret, Vi.ex_try, Vi.so_ex, Vi.sb_ex, Vi.d_ex, Vi.runK_ex, Vi.calR_ex, Vi.keepE, Vi.cloF, Vi.closedR, Vi.bwK_ok, Vi.ev_bw, Vi.bwK'_ok, Vi.evT_bw, Vi.evT_chain, Vi.evT_one, Vi.evT_and, Vi.evT_or, Vi.evT_not, Vi.evT_var, Vi.evT_call, Vi.evT_isi, Vi.evT_blt, Vi.evT_ix, Vi.evT_bin, Vi.evT_bl, Vi.ex_pass, Vi.ex_asg, Vi.ex_expr, Vi.ex_ret, Vi.ex_retN, Vi.ex_if, Vi.ex_for, Vi.setK_s, Vi.setK2_s, Vi.setK3_s, Vi.ex_set, Vi.ex_aug, Vi.ex_augS, Vi.augM, Vi.augSM, Vi.exs_nil, Vi.exs_cons, Vi.run_b, Vi.runK_ret, Vi.runK_nx, Vi.frzE_nil, Vi.frz_cons, Vi.frzK_ol, Vi.frzK2_s, Vi.frzK_fz, Vi.frzK_no, Vi.frzK_olI, Vi.rdV_olI, Vi.mvV_olI, Vi.olO_olI, Vi.lent_olI, Vi.closed_olI, Vi.dOf_fz, Vi.dOf_olI, Vi.dOf_olI', Vi.dsOf_fz, Vi.dsOf_ints, Vi.dsOf_nil, Vi.dsOf_cons, Option.map_some, Vi.binD, Vi.add_int, Vi.sub_int, Vi.cmpD, Vi.lt_int, Vi.le_int, Vi.gt_int, Vi.ge_int, Vi.neg_int, Vi.bf_len_l, Vi.bf_len_t, Vi.bf_len_s, Vi.bf_abs, Vi.bf_int, Vi.bf_intb, Vi.bf_max2, Vi.bf_min2, Vi.bf_list_l, Vi.bf_list_t, Vi.bf_tup_l, Vi.bf_sum, Vi.ix_l, Vi.ix_t, Vi.ix_s, Vi.isiD, Vi.chain2_eq, Vi.chainK_b, Vi.iop_add, Vi.iop_sub, Vi.it_l, Vi.it_t, Vi.it_s, Vi.lentOk, Vi.outs_nil, Vi.outs_fz, Vi.outs_c, List.tail_cons, Vi.killE, Vi.noOwn, Vi.closed, Vi.closeds, Vi.closedD, Vi.closeds_ints, Vi.wipeE, Vi.resE, Vi.bd_nm, Vi.bd_tp, Vi.bdN, Vi.bdT, Vi.bdsN, Vi.bdNil, Vi.bdCons, Vi.Tg.js, Vi.partM, Vi.eq_int, Vi.eq_str, Vi.eq_bool, Vi.eq_ints, tS_len, rr, c]
end K17

set_option Elab.async false
set_option linter.all false
set_option maxRecDepth 100000
set_option maxHeartbeats 4000000
namespace K17
open PySem Vi L2
abbrev iL (xs : List Nat) : PyData := .list (xs.map fun i => .int (i : Nat))
abbrev iO (xs : List Nat) : OV := .ol (xs.map fun i => .fz (.int (i : Nat)))
def brkL (l : List Nat) : List Nat := (upF 1 l.length).filter fun k => decide (nearV l k = leastV l)
theorem enL_near {l : List Nat} : enL ((nearL l).map fun i => .int (i : Nat)) = (List.range (l.length - 1)).map fun i => .tuple [.int (i : Nat), .int (nearV l (1 + i) : Nat)] := by
  unfold enL nearL upF
  apply List.ext_getElem
  · simp
  · intro i h1 h2
    have h3 : i < l.length - 1 := by simpa using h1
    simp [h3]
theorem brk_eq {l : List Nat} : ((List.range (l.length - 1)).filter fun i : Nat => decide (nearV l (1 + i) = leastV l)).map (fun i : Nat => OV.fz (.int ((i : Int) + 1))) = (brkL l).map fun i => .fz (.int (i : Nat)) := by
  unfold brkL upF
  rw [List.filter_map, List.map_map]
  refine List.map_congr_left fun i _ => ?_
  simp only [Function.comp_apply]
  congr 2; omega
theorem head_per {l : List Nat} (hl : 1 ≤ l.length) : atI (((upF 1 (l.length + 1)).filter (perB l)).map fun i => PyData.int (i : Nat)) 0 = some (.int (leastV l : Nat)) := by
  have h : atI (((upF 1 (l.length + 1)).filter (perB l)).map fun i => PyData.int (i : Nat)) ((0 : Nat) : Int) = some (.int (leastV l : Nat)) := by
    rw [Vi.atI_nat, List.getElem?_map, ← List.head?_eq_getElem?, List.head?_filter, (least_spec hl).1]; rfl
  exact h
theorem ok_breaks {l : List Nat} (hl : l.length ≤ 1000) (h1 : 1 ≤ l.length) : den_breaks_at [.fz (tx l)] = .ok (iO (brkL l)) [none] := by
  have t1 := ok_periods hl
  have t2 := ok_nears hl h1
  have hp := head_per h1
  have en := enL_near (l := l)
  have c : compL (bdG (.tp [2, 3])) (evC rho_breaks_at (.yes (.cmp .Eq (.var 3) (.var 1)))) (ev rho_breaks_at (.bin .Add (.var 2) (.int 1))) [2, 3] ((List.range (l.length - 1)).map fun i => .tuple [.int (i : Nat), .int (nearV l (1 + i) : Nat)]) [some (.fz (tx l)), some (.fz (.int (leastV l : Nat))), none, none] = .ok (((List.range (l.length - 1)).filter fun i : Nat => decide (nearV l (1 + i) = leastV l)).map (fun i : Nat => OV.fz (.int ((i : Int) + 1)))) [some (.fz (tx l)), some (.fz (.int (leastV l : Nat))), none, none] := by
    refine compL_fm (fun i : Nat => decide (nearV l (1 + i) = leastV l)) (fun i : Nat => OV.fz (.int ((i : Int) + 1))) _ fun x hx => ?_
    have e : decide ((nearV l (1 + x) : Int) = (leastV l : Int)) = decide (nearV l (1 + x) = leastV l) := by
      rw [Bool.eq_iff_iff, decide_eq_true_iff, decide_eq_true_iff]; omega
    have e2 := eq_int (a := (nearV l (1 + x) : Int)) (b := (leastV l : Int))
    rw [e] at e2
    generalize decide (nearV l (1 + x) = leastV l) = R at e2 ⊢
    generalize (nearV l (1 + x) : Int) = A at e2 ⊢
    generalize (leastV l : Int) = B at e2 ⊢
    exact ⟨[some (.fz (tx l)), some (.fz (.int B)), some (.fz (.int (x : Nat))), some (.fz (.int A))], [some (.fz (tx l)), some (.fz (.int B)), some (.fz (.int (x : Nat))), some (.fz (.int A))], by simp -implicitDefEqProofs [Vi.bind_ok, Vi.bind_bad, Vi.bind_ex, Vi.so_ok, Vi.sb_nx, Vi.sb_ret, Vi.sb_bad, Vi.d_fz, Vi.d_olI, Vi.d_ol, Vi.o_some, Vi.tst_b, Vi.tst_i, Vi.tst_l, Vi.tst_s, Vi.tst_n, Vi.oB_some, Vi.oP_some, Vi.oL_some, Vi.rdV_fz, Vi.rdV_ol, Vi.rdV2_some, Vi.mvV_ol, Vi.mvV_fz, Vi.rdVar_c, Vi.ev_var, Vi.ev_mv, Vi.ev_int, Vi.ev_bl, Vi.ev_non, Vi.ev_str, Vi.ev_gi, Vi.ev_gs, Vi.ev_bin, Vi.ev_neg, Vi.ev_cmp, Vi.evT_cmp, Vi.ev_chain, Vi.ev_one, Vi.andK_b, Vi.orK_b, Vi.notK_b, Vi.ev_and, Vi.ev_or, Vi.ev_not, Vi.isB_b, Vi.ev_ite, Vi.ev_tup, Vi.ev_lst, Vi.ev_ix, Vi.ev_slc, Vi.evP_no, Vi.evP_yes, Vi.ev_call, Vi.calK_some, Vi.calR_ok, Vi.evA_nil, Vi.evA_e, Vi.evA_o, Vi.args_nil, Vi.args_e, Vi.args_o, Vi.argK_s, Vi.asm_nil, Vi.asm_e, Vi.asm_o, Vi.asmK_s, Vi.lent_ol, Vi.lent_sc, Vi.lent_fz, Vi.put_nil, Vi.put_e, Vi.put_o, Vi.ev_blt, Vi.ev_isi, Vi.ev_lsc, Vi.lscK_s, Vi.cmpK_ok, Vi.ev_lc, Vi.evC_no, Vi.evC_yes, Vi.evI_e, Vi.evI_r1, Vi.evI_r2, Vi.evs_nil, Vi.evs_cons, Vi.evO_nil, Vi.evO_cons, Vi.olO_s, Vi.olOf_c, Vi.appK_s, Vi.appK2_s, Vi.ev_app, Vi.ev_mt, Vi.evT_mt, Vi.appNK_s, Vi.ev_appN, Vi.inOf_c, Vi.inK_s, Vi.inK2_s, Vi.mvixK_s, Vi.ev_mvix, Vi.ev_rev, Vi.ev_repC, Vi.evT_rev, Vi.evI_en, Vi.evI_rv, Vi.evI_rg, Vi.rgK_s, Vi.asgTK_s, Vi.ex_asgT, Vi.bwsK_nx, Vi.bwsK_ret, Vi.ex_bws, Vi.ex_rais, Vi.tryK_nx, Vi.tryK_ret, Vi.ex_try, Vi.so_ex, Vi.sb_ex, Vi.d_ex, Vi.runK_ex, Vi.calR_ex, Vi.keepE, Vi.cloF, Vi.closedR, Vi.bwK_ok, Vi.ev_bw, Vi.bwK'_ok, Vi.evT_bw, Vi.evT_chain, Vi.evT_one, Vi.evT_and, Vi.evT_or, Vi.evT_not, Vi.evT_var, Vi.evT_call, Vi.evT_isi, Vi.evT_blt, Vi.evT_ix, Vi.evT_bin, Vi.evT_bl, Vi.ex_pass, Vi.ex_asg, Vi.ex_expr, Vi.ex_ret, Vi.ex_retN, Vi.ex_if, Vi.ex_for, Vi.setK_s, Vi.setK2_s, Vi.setK3_s, Vi.ex_set, Vi.ex_aug, Vi.ex_augS, Vi.augM, Vi.augSM, Vi.exs_nil, Vi.exs_cons, Vi.run_b, Vi.runK_ret, Vi.runK_nx, Vi.frzE_nil, Vi.frz_cons, Vi.frzK_ol, Vi.frzK2_s, Vi.frzK_fz, Vi.frzK_no, Vi.frzK_olI, Vi.rdV_olI, Vi.mvV_olI, Vi.olO_olI, Vi.lent_olI, Vi.closed_olI, Vi.dOf_fz, Vi.dOf_olI, Vi.dOf_olI', Vi.dsOf_fz, Vi.dsOf_ints, Vi.dsOf_nil, Vi.dsOf_cons, Option.map_some, Vi.binD, Vi.add_int, Vi.sub_int, Vi.cmpD, Vi.lt_int, Vi.le_int, Vi.gt_int, Vi.ge_int, Vi.neg_int, Vi.bf_len_l, Vi.bf_len_t, Vi.bf_len_s, Vi.bf_abs, Vi.bf_int, Vi.bf_intb, Vi.bf_max2, Vi.bf_min2, Vi.bf_list_l, Vi.bf_list_t, Vi.bf_tup_l, Vi.bf_sum, Vi.ix_l, Vi.ix_t, Vi.ix_s, Vi.isiD, Vi.chain2_eq, Vi.chainK_b, Vi.iop_add, Vi.iop_sub, Vi.it_l, Vi.it_t, Vi.it_s, Vi.lentOk, Vi.outs_nil, Vi.outs_fz, Vi.outs_c, List.tail_cons, Vi.killE, Vi.noOwn, Vi.closed, Vi.closeds, Vi.closedD, Vi.closeds_ints, Vi.wipeE, Vi.resE, Vi.bd_nm, Vi.bd_tp, Vi.bdN, Vi.bdT, Vi.bdsN, Vi.bdNil, Vi.bdCons, Vi.Tg.js, Vi.partM, Vi.eq_int, Vi.eq_str, Vi.eq_bool, Vi.eq_ints], by simp -implicitDefEqProofs [Vi.bind_ok, Vi.bind_bad, Vi.bind_ex, Vi.so_ok, Vi.sb_nx, Vi.sb_ret, Vi.sb_bad, Vi.d_fz, Vi.d_olI, Vi.d_ol, Vi.o_some, Vi.tst_b, Vi.tst_i, Vi.tst_l, Vi.tst_s, Vi.tst_n, Vi.oB_some, Vi.oP_some, Vi.oL_some, Vi.rdV_fz, Vi.rdV_ol, Vi.rdV2_some, Vi.mvV_ol, Vi.mvV_fz, Vi.rdVar_c, Vi.ev_var, Vi.ev_mv, Vi.ev_int, Vi.ev_bl, Vi.ev_non, Vi.ev_str, Vi.ev_gi, Vi.ev_gs, Vi.ev_bin, Vi.ev_neg, Vi.ev_cmp, Vi.evT_cmp, Vi.ev_chain, Vi.ev_one, Vi.andK_b, Vi.orK_b, Vi.notK_b, Vi.ev_and, Vi.ev_or, Vi.ev_not, Vi.isB_b, Vi.ev_ite, Vi.ev_tup, Vi.ev_lst, Vi.ev_ix, Vi.ev_slc, Vi.evP_no, Vi.evP_yes, Vi.ev_call, Vi.calK_some, Vi.calR_ok, Vi.evA_nil, Vi.evA_e, Vi.evA_o, Vi.args_nil, Vi.args_e, Vi.args_o, Vi.argK_s, Vi.asm_nil, Vi.asm_e, Vi.asm_o, Vi.asmK_s, Vi.lent_ol, Vi.lent_sc, Vi.lent_fz, Vi.put_nil, Vi.put_e, Vi.put_o, Vi.ev_blt, Vi.ev_isi, Vi.ev_lsc, Vi.lscK_s, Vi.cmpK_ok, Vi.ev_lc, Vi.evC_no, Vi.evC_yes, Vi.evI_e, Vi.evI_r1, Vi.evI_r2, Vi.evs_nil, Vi.evs_cons, Vi.evO_nil, Vi.evO_cons, Vi.olO_s, Vi.olOf_c, Vi.appK_s, Vi.appK2_s, Vi.ev_app, Vi.ev_mt, Vi.evT_mt, Vi.appNK_s, Vi.ev_appN, Vi.inOf_c, Vi.inK_s, Vi.inK2_s, Vi.mvixK_s, Vi.ev_mvix, Vi.ev_rev, Vi.ev_repC, Vi.evT_rev, Vi.evI_en, Vi.evI_rv, Vi.evI_rg, Vi.rgK_s, Vi.asgTK_s, Vi.ex_asgT, Vi.bwsK_nx, Vi.bwsK_ret, Vi.ex_bws, Vi.ex_rais, Vi.tryK_nx, Vi.tryK_ret, Vi.ex_try, Vi.so_ex, Vi.sb_ex, Vi.d_ex, Vi.runK_ex, Vi.calR_ex, Vi.keepE, Vi.cloF, Vi.closedR, Vi.bwK_ok, Vi.ev_bw, Vi.bwK'_ok, Vi.evT_bw, Vi.evT_chain, Vi.evT_one, Vi.evT_and, Vi.evT_or, Vi.evT_not, Vi.evT_var, Vi.evT_call, Vi.evT_isi, Vi.evT_blt, Vi.evT_ix, Vi.evT_bin, Vi.evT_bl, Vi.ex_pass, Vi.ex_asg, Vi.ex_expr, Vi.ex_ret, Vi.ex_retN, Vi.ex_if, Vi.ex_for, Vi.setK_s, Vi.setK2_s, Vi.setK3_s, Vi.ex_set, Vi.ex_aug, Vi.ex_augS, Vi.augM, Vi.augSM, Vi.exs_nil, Vi.exs_cons, Vi.run_b, Vi.runK_ret, Vi.runK_nx, Vi.frzE_nil, Vi.frz_cons, Vi.frzK_ol, Vi.frzK2_s, Vi.frzK_fz, Vi.frzK_no, Vi.frzK_olI, Vi.rdV_olI, Vi.mvV_olI, Vi.olO_olI, Vi.lent_olI, Vi.closed_olI, Vi.dOf_fz, Vi.dOf_olI, Vi.dOf_olI', Vi.dsOf_fz, Vi.dsOf_ints, Vi.dsOf_nil, Vi.dsOf_cons, Option.map_some, Vi.binD, Vi.add_int, Vi.sub_int, Vi.cmpD, Vi.lt_int, Vi.le_int, Vi.gt_int, Vi.ge_int, Vi.neg_int, Vi.bf_len_l, Vi.bf_len_t, Vi.bf_len_s, Vi.bf_abs, Vi.bf_int, Vi.bf_intb, Vi.bf_max2, Vi.bf_min2, Vi.bf_list_l, Vi.bf_list_t, Vi.bf_tup_l, Vi.bf_sum, Vi.ix_l, Vi.ix_t, Vi.ix_s, Vi.isiD, Vi.chain2_eq, Vi.chainK_b, Vi.iop_add, Vi.iop_sub, Vi.it_l, Vi.it_t, Vi.it_s, Vi.lentOk, Vi.outs_nil, Vi.outs_fz, Vi.outs_c, List.tail_cons, Vi.killE, Vi.noOwn, Vi.closed, Vi.closeds, Vi.closedD, Vi.closeds_ints, Vi.wipeE, Vi.resE, Vi.bd_nm, Vi.bd_tp, Vi.bdN, Vi.bdT, Vi.bdsN, Vi.bdNil, Vi.bdCons, Vi.Tg.js, Vi.partM, Vi.eq_int, Vi.eq_str, Vi.eq_bool, Vi.eq_ints, -Vi.eq_int, e2], by simp -implicitDefEqProofs [Vi.bind_ok, Vi.bind_bad, Vi.bind_ex, Vi.so_ok, Vi.sb_nx, Vi.sb_ret, Vi.sb_bad, Vi.d_fz, Vi.d_olI, Vi.d_ol, Vi.o_some, Vi.tst_b, Vi.tst_i, Vi.tst_l, Vi.tst_s, Vi.tst_n, Vi.oB_some, Vi.oP_some, Vi.oL_some, Vi.rdV_fz, Vi.rdV_ol, Vi.rdV2_some, Vi.mvV_ol, Vi.mvV_fz, Vi.rdVar_c, Vi.ev_var, Vi.ev_mv, Vi.ev_int, Vi.ev_bl, Vi.ev_non, Vi.ev_str, Vi.ev_gi, Vi.ev_gs, Vi.ev_bin, Vi.ev_neg, Vi.ev_cmp, Vi.evT_cmp, Vi.ev_chain, Vi.ev_one, Vi.andK_b, Vi.orK_b, Vi.notK_b, Vi.ev_and, Vi.ev_or, Vi.ev_not, Vi.isB_b, Vi.ev_ite, Vi.ev_tup, Vi.ev_lst, Vi.ev_ix, Vi.ev_slc, Vi.evP_no, Vi.evP_yes, Vi.ev_call, Vi.calK_some, Vi.calR_ok, Vi.evA_nil, Vi.evA_e, Vi.evA_o, Vi.args_nil, Vi.args_e, Vi.args_o, Vi.argK_s, Vi.asm_nil, Vi.asm_e, Vi.asm_o, Vi.asmK_s, Vi.lent_ol, Vi.lent_sc, Vi.lent_fz, Vi.put_nil, Vi.put_e, Vi.put_o, Vi.ev_blt, Vi.ev_isi, Vi.ev_lsc, Vi.lscK_s, Vi.cmpK_ok, Vi.ev_lc, Vi.evC_no, Vi.evC_yes, Vi.evI_e, Vi.evI_r1, Vi.evI_r2, Vi.evs_nil, Vi.evs_cons, Vi.evO_nil, Vi.evO_cons, Vi.olO_s, Vi.olOf_c, Vi.appK_s, Vi.appK2_s, Vi.ev_app, Vi.ev_mt, Vi.evT_mt, Vi.appNK_s, Vi.ev_appN, Vi.inOf_c, Vi.inK_s, Vi.inK2_s, Vi.mvixK_s, Vi.ev_mvix, Vi.ev_rev, Vi.ev_repC, Vi.evT_rev, Vi.evI_en, Vi.evI_rv, Vi.evI_rg, Vi.rgK_s, Vi.asgTK_s, Vi.ex_asgT, Vi.bwsK_nx, Vi.bwsK_ret, Vi.ex_bws, Vi.ex_rais, Vi.tryK_nx, Vi.tryK_ret, Vi.ex_try, Vi.so_ex, Vi.sb_ex, Vi.d_ex, Vi.runK_ex, Vi.calR_ex, Vi.keepE, Vi.cloF, Vi.closedR, Vi.bwK_ok, Vi.ev_bw, Vi.bwK'_ok, Vi.evT_bw, Vi.evT_chain, Vi.evT_one, Vi.evT_and, Vi.evT_or, Vi.evT_not, Vi.evT_var, Vi.evT_call, Vi.evT_isi, Vi.evT_blt, Vi.evT_ix, Vi.evT_bin, Vi.evT_bl, Vi.ex_pass, Vi.ex_asg, Vi.ex_expr, Vi.ex_ret, Vi.ex_retN, Vi.ex_if, Vi.ex_for, Vi.setK_s, Vi.setK2_s, Vi.setK3_s, Vi.ex_set, Vi.ex_aug, Vi.ex_augS, Vi.augM, Vi.augSM, Vi.exs_nil, Vi.exs_cons, Vi.run_b, Vi.runK_ret, Vi.runK_nx, Vi.frzE_nil, Vi.frz_cons, Vi.frzK_ol, Vi.frzK2_s, Vi.frzK_fz, Vi.frzK_no, Vi.frzK_olI, Vi.rdV_olI, Vi.mvV_olI, Vi.olO_olI, Vi.lent_olI, Vi.closed_olI, Vi.dOf_fz, Vi.dOf_olI, Vi.dOf_olI', Vi.dsOf_fz, Vi.dsOf_ints, Vi.dsOf_nil, Vi.dsOf_cons, Option.map_some, Vi.binD, Vi.add_int, Vi.sub_int, Vi.cmpD, Vi.lt_int, Vi.le_int, Vi.gt_int, Vi.ge_int, Vi.neg_int, Vi.bf_len_l, Vi.bf_len_t, Vi.bf_len_s, Vi.bf_abs, Vi.bf_int, Vi.bf_intb, Vi.bf_max2, Vi.bf_min2, Vi.bf_list_l, Vi.bf_list_t, Vi.bf_tup_l, Vi.bf_sum, Vi.ix_l, Vi.ix_t, Vi.ix_s, Vi.isiD, Vi.chain2_eq, Vi.chainK_b, Vi.iop_add, Vi.iop_sub, Vi.it_l, Vi.it_t, Vi.it_s, Vi.lentOk, Vi.outs_nil, Vi.outs_fz, Vi.outs_c, List.tail_cons, Vi.killE, Vi.noOwn, Vi.closed, Vi.closeds, Vi.closedD, Vi.closeds_ints, Vi.wipeE, Vi.resE, Vi.bd_nm, Vi.bd_tp, Vi.bdN, Vi.bdT, Vi.bdsN, Vi.bdNil, Vi.bdCons, Vi.Tg.js, Vi.partM, Vi.eq_int, Vi.eq_str, Vi.eq_bool, Vi.eq_ints]⟩
  rw [brk_eq] at c
  generalize (leastV l : Int) = B at hp c
  generalize ((List.range (l.length - 1)).map fun i => PyData.tuple [.int (i : Nat), .int (nearV l (1 + i) : Nat)]) = EN at en c
  generalize nearL l = NL at t2 en
  generalize (upF 1 (l.length + 1)).filter (perB l) = PL at t1 hp
  generalize brkL l = BL at c
  simp -implicitDefEqProofs [den_breaks_at, bod_breaks_at, b_breaks_at_1, b_breaks_at_0, Vi.bind_ok, Vi.bind_bad, Vi.bind_ex, Vi.so_ok, Vi.sb_nx, Vi.sb_ret, Vi.sb_bad, Vi.d_fz, Vi.d_olI, Vi.d_ol, Vi.o_some, Vi.tst_b, Vi.tst_i, Vi.tst_l, Vi.tst_s, Vi.tst_n, Vi.oB_some, Vi.oP_some, Vi.oL_some, Vi.rdV_fz, Vi.rdV_ol, Vi.rdV2_some, Vi.mvV_ol, Vi.mvV_fz, Vi.rdVar_c, Vi.ev_var, Vi.ev_mv, Vi.ev_int, Vi.ev_bl, Vi.ev_non, Vi.ev_str, Vi.ev_gi, Vi.ev_gs, Vi.ev_bin, Vi.ev_neg, Vi.ev_cmp, Vi.evT_cmp, Vi.ev_chain, Vi.ev_one, Vi.andK_b, Vi.orK_b, Vi.notK_b, Vi.ev_and, Vi.ev_or, Vi.ev_not, Vi.isB_b, Vi.ev_ite, Vi.ev_tup, Vi.ev_lst, Vi.ev_ix, Vi.ev_slc, Vi.evP_no, Vi.evP_yes, Vi.ev_call, Vi.calK_some, Vi.calR_ok, Vi.evA_nil, Vi.evA_e, Vi.evA_o, Vi.args_nil, Vi.args_e, Vi.args_o, Vi.argK_s, Vi.asm_nil, Vi.asm_e, Vi.asm_o, Vi.asmK_s, Vi.lent_ol, Vi.lent_sc, Vi.lent_fz, Vi.put_nil, Vi.put_e, Vi.put_o, Vi.ev_blt, Vi.ev_isi, Vi.ev_lsc, Vi.lscK_s, Vi.cmpK_ok, Vi.ev_lc, Vi.evC_no, Vi.evC_yes, Vi.evI_e, Vi.evI_r1, Vi.evI_r2, Vi.evs_nil, Vi.evs_cons, Vi.evO_nil, Vi.evO_cons, Vi.olO_s, Vi.olOf_c, Vi.appK_s, Vi.appK2_s, Vi.ev_app, Vi.ev_mt, Vi.evT_mt, Vi.appNK_s, Vi.ev_appN, Vi.inOf_c, Vi.inK_s, Vi.inK2_s, Vi.mvixK_s, Vi.ev_mvix, Vi.ev_rev, Vi.ev_repC, Vi.evT_rev, Vi.evI_en, Vi.evI_rv, Vi.evI_rg, Vi.rgK_s, Vi.asgTK_s, Vi.ex_asgT, Vi.bwsK_nx, Vi.bwsK_ret, Vi.ex_bws, Vi.ex_rais, Vi.tryK_nx, Vi.tryK_ret, Vi.ex_try, Vi.so_ex, Vi.sb_ex, Vi.d_ex, Vi.runK_ex, Vi.calR_ex, Vi.keepE, Vi.cloF, Vi.closedR, Vi.bwK_ok, Vi.ev_bw, Vi.bwK'_ok, Vi.evT_bw, Vi.evT_chain, Vi.evT_one, Vi.evT_and, Vi.evT_or, Vi.evT_not, Vi.evT_var, Vi.evT_call, Vi.evT_isi, Vi.evT_blt, Vi.evT_ix, Vi.evT_bin, Vi.evT_bl, Vi.ex_pass, Vi.ex_asg, Vi.ex_expr, Vi.ex_ret, Vi.ex_retN, Vi.ex_if, Vi.ex_for, Vi.setK_s, Vi.setK2_s, Vi.setK3_s, Vi.ex_set, Vi.ex_aug, Vi.ex_augS, Vi.augM, Vi.augSM, Vi.exs_nil, Vi.exs_cons, Vi.run_b, Vi.runK_ret, Vi.runK_nx, Vi.frzE_nil, Vi.frz_cons, Vi.frzK_ol, Vi.frzK2_s, Vi.frzK_fz, Vi.frzK_no, Vi.frzK_olI, Vi.rdV_olI, Vi.mvV_olI, Vi.olO_olI, Vi.lent_olI, Vi.closed_olI, Vi.dOf_fz, Vi.dOf_olI, Vi.dOf_olI', Vi.dsOf_fz, Vi.dsOf_ints, Vi.dsOf_nil, Vi.dsOf_cons, Option.map_some, Vi.binD, Vi.add_int, Vi.sub_int, Vi.cmpD, Vi.lt_int, Vi.le_int, Vi.gt_int, Vi.ge_int, Vi.neg_int, Vi.bf_len_l, Vi.bf_len_t, Vi.bf_len_s, Vi.bf_abs, Vi.bf_int, Vi.bf_intb, Vi.bf_max2, Vi.bf_min2, Vi.bf_list_l, Vi.bf_list_t, Vi.bf_tup_l, Vi.bf_sum, Vi.ix_l, Vi.ix_t, Vi.ix_s, Vi.isiD, Vi.chain2_eq, Vi.chainK_b, Vi.iop_add, Vi.iop_sub, Vi.it_l, Vi.it_t, Vi.it_s, Vi.lentOk, Vi.outs_nil, Vi.outs_fz, Vi.outs_c, List.tail_cons, Vi.killE, Vi.noOwn, Vi.closed, Vi.closeds, Vi.closedD, Vi.closeds_ints, Vi.wipeE, Vi.resE, Vi.bd_nm, Vi.bd_tp, Vi.bdN, Vi.bdT, Vi.bdsN, Vi.bdNil, Vi.bdCons, Vi.Tg.js, Vi.partM, Vi.eq_int, Vi.eq_str, Vi.eq_bool, Vi.eq_ints, rho_breaks_at, t1, t2, hp, en, c, dsOf_map, dsOf_comp, iO]
/-! the law's own -/
/-- unlike places -/
def misI (l : List Nat) (p : Nat) (i : Int) : Bool := decide (0 ≤ i ∧ i + p < l.length ∧ sg l i.toNat ≠ sg l (i.toNat + p))
theorem mis_loc {l : List Nat} {k p : Nat} : ((rgI ((k : Int) - p) k).filter (misI l p)).length = 0 ↔ locB l k p = true := by
  rw [locB_iff, List.length_eq_zero_iff, List.filter_eq_nil_iff]
  constructor
  · intro h i h1 h2 h3
    have := h (i : Int) (mem_rgI.mpr ⟨by omega, by omega⟩)
    unfold misI at this
    rw [decide_eq_true_iff] at this
    by_cases q : sg l i = sg l (i + p)
    · exact q
    · exact (this ⟨by omega, by omega, by simpa using q⟩).elim
  · intro h i hi
    have hi := mem_rgI.mp hi
    unfold misI
    rw [decide_eq_true_iff]
    rintro ⟨a1, a2, a3⟩
    exact a3 (h i.toNat (by omega) (by omega) (by omega))
theorem in_near {l : List Nat} {k p : Nat} (hk : k ≤ l.length) (hl : l.length ≤ 1000) {x5 : Option OV} : ∃ y5 : Option OV, forL (bdG (.nm 5)) (exs rho__law_near [] b__law_near_2) ((rgI ((k : Int) - p) k).map .int) [some (.fz (tx l)), some (.fz (.int (k : Nat))), some (.fz (.int (l.length : Nat))), some (.fz (.int (p : Nat))), some (.fz (.int 0)), x5] = .nx [some (.fz (tx l)), some (.fz (.int (k : Nat))), some (.fz (.int (l.length : Nat))), some (.fz (.int (p : Nat))), some (.fz (.int (((rgI ((k : Int) - p) k).filter (misI l p)).length : Nat))), y5] := by
  obtain ⟨env, h1, y5, rfl⟩ := forL_inv (bd := bdG (.nm 5)) (mb := exs rho__law_near [] b__law_near_2) (g := PyData.int) (fun d env => ∃ y5 : Option OV, env = [some (.fz (tx l)), some (.fz (.int (k : Nat))), some (.fz (.int (l.length : Nat))), some (.fz (.int (p : Nat))), some (.fz (.int ((d.filter (misI l p)).length : Nat))), y5]) (rgI ((k : Int) - p) k) [] [some (.fz (tx l)), some (.fz (.int (k : Nat))), some (.fz (.int (l.length : Nat))), some (.fz (.int (p : Nat))), some (.fz (.int 0)), x5] ⟨x5, rfl⟩
    (by
      rintro d x r env he ⟨y5, rfl⟩
      have hx : x ∈ rgI ((k : Int) - p) k := by rw [← List.nil_append (rgI _ _), ← he]; simp
      have hx := mem_rgI.mp hx
      rw [List.filter_append]
      generalize hL : l.length = n at *
      by_cases c1 : 0 ≤ x
      · by_cases c2 : x + p < n
        · have s1 := sg_at (w := l) (i := x.toNat) (by omega)
          have s2 := sg_at (w := l) (i := x.toNat + p) (by omega)
          have e1 : ((x.toNat : Nat) : Int) = x := by omega
          have e2 : ((x.toNat + p : Nat) : Int) = x + p := by omega
          rw [e1] at s1
          rw [e2] at s2
          have e := eq_tx (a := [sg l x.toNat]) (b := [sg l (x.toNat + p)])
          have mi : misI l p x = !decide ([sg l x.toNat] = [sg l (x.toNat + p)]) := by
            unfold misI
            rw [Bool.eq_iff_iff, decide_eq_true_iff]
            simp [c1, c2, hL]
          by_cases q : [sg l x.toNat] = [sg l (x.toNat + p)]
          · rw [show decide ([sg l x.toNat] = [sg l (x.toNat + p)]) = true from decide_eq_true q] at e mi
            have fm : [x].filter (misI l p) = [] := by simp [mi]
            rw [fm, List.append_nil]
            generalize ((d.filter (misI l p)).length : Nat) = W
            generalize sg l x.toNat = A at s1 e
            generalize sg l (x.toNat + p) = B at s2 e
            exact ⟨[some (.fz (tx l)), some (.fz (.int (k : Nat))), some (.fz (.int (n : Nat))), some (.fz (.int (p : Nat))), some (.fz (.int (W : Nat))), some (.fz (.int x))], [some (.fz (tx l)), some (.fz (.int (k : Nat))), some (.fz (.int (n : Nat))), some (.fz (.int (p : Nat))), some (.fz (.int (W : Nat))), some (.fz (.int x))], by simp -implicitDefEqProofs [Vi.bind_ok, Vi.bind_bad, Vi.bind_ex, Vi.so_ok, Vi.sb_nx, Vi.sb_ret, Vi.sb_bad, Vi.d_fz, Vi.d_olI, Vi.d_ol, Vi.o_some, Vi.tst_b, Vi.tst_i, Vi.tst_l, Vi.tst_s, Vi.tst_n, Vi.oB_some, Vi.oP_some, Vi.oL_some, Vi.rdV_fz, Vi.rdV_ol, Vi.rdV2_some, Vi.mvV_ol, Vi.mvV_fz, Vi.rdVar_c, Vi.ev_var, Vi.ev_mv, Vi.ev_int, Vi.ev_bl, Vi.ev_non, Vi.ev_str, Vi.ev_gi, Vi.ev_gs, Vi.ev_bin, Vi.ev_neg, Vi.ev_cmp, Vi.evT_cmp, Vi.ev_chain, Vi.ev_one, Vi.andK_b, Vi.orK_b, Vi.notK_b, Vi.ev_and, Vi.ev_or, Vi.ev_not, Vi.isB_b, Vi.ev_ite, Vi.ev_tup, Vi.ev_lst, Vi.ev_ix, Vi.ev_slc, Vi.evP_no, Vi.evP_yes, Vi.ev_call, Vi.calK_some, Vi.calR_ok, Vi.evA_nil, Vi.evA_e, Vi.evA_o, Vi.args_nil, Vi.args_e, Vi.args_o, Vi.argK_s, Vi.asm_nil, Vi.asm_e, Vi.asm_o, Vi.asmK_s, Vi.lent_ol, Vi.lent_sc, Vi.lent_fz, Vi.put_nil, Vi.put_e, Vi.put_o, Vi.ev_blt, Vi.ev_isi, Vi.ev_lsc, Vi.lscK_s, Vi.cmpK_ok, Vi.ev_lc, Vi.evC_no, Vi.evC_yes, Vi.evI_e, Vi.evI_r1, Vi.evI_r2, Vi.evs_nil, Vi.evs_cons, Vi.evO_nil, Vi.evO_cons, Vi.olO_s, Vi.olOf_c, Vi.appK_s, Vi.appK2_s, Vi.ev_app, Vi.ev_mt, Vi.evT_mt, Vi.appNK_s, Vi.ev_appN, Vi.inOf_c, Vi.inK_s, Vi.inK2_s, Vi.mvixK_s, Vi.ev_mvix, Vi.ev_rev, Vi.ev_repC, Vi.evT_rev, Vi.evI_en, Vi.evI_rv, Vi.evI_rg, Vi.rgK_s, Vi.asgTK_s, Vi.ex_asgT, Vi.bwsK_nx, Vi.bwsK_ret, Vi.ex_bws, Vi.ex_rais, Vi.tryK_nx, Vi.tryK_ret, Vi.ex_try, Vi.so_ex, Vi.sb_ex, Vi.d_ex, Vi.runK_ex, Vi.calR_ex, Vi.keepE, Vi.cloF, Vi.closedR, Vi.bwK_ok, Vi.ev_bw, Vi.bwK'_ok, Vi.evT_bw, Vi.evT_chain, Vi.evT_one, Vi.evT_and, Vi.evT_or, Vi.evT_not, Vi.evT_var, Vi.evT_call, Vi.evT_isi, Vi.evT_blt, Vi.evT_ix, Vi.evT_bin, Vi.evT_bl, Vi.ex_pass, Vi.ex_asg, Vi.ex_expr, Vi.ex_ret, Vi.ex_retN, Vi.ex_if, Vi.ex_for, Vi.setK_s, Vi.setK2_s, Vi.setK3_s, Vi.ex_set, Vi.ex_aug, Vi.ex_augS, Vi.augM, Vi.augSM, Vi.exs_nil, Vi.exs_cons, Vi.run_b, Vi.runK_ret, Vi.runK_nx, Vi.frzE_nil, Vi.frz_cons, Vi.frzK_ol, Vi.frzK2_s, Vi.frzK_fz, Vi.frzK_no, Vi.frzK_olI, Vi.rdV_olI, Vi.mvV_olI, Vi.olO_olI, Vi.lent_olI, Vi.closed_olI, Vi.dOf_fz, Vi.dOf_olI, Vi.dOf_olI', Vi.dsOf_fz, Vi.dsOf_ints, Vi.dsOf_nil, Vi.dsOf_cons, Option.map_some, Vi.binD, Vi.add_int, Vi.sub_int, Vi.cmpD, Vi.lt_int, Vi.le_int, Vi.gt_int, Vi.ge_int, Vi.neg_int, Vi.bf_len_l, Vi.bf_len_t, Vi.bf_len_s, Vi.bf_abs, Vi.bf_int, Vi.bf_intb, Vi.bf_max2, Vi.bf_min2, Vi.bf_list_l, Vi.bf_list_t, Vi.bf_tup_l, Vi.bf_sum, Vi.ix_l, Vi.ix_t, Vi.ix_s, Vi.isiD, Vi.chain2_eq, Vi.chainK_b, Vi.iop_add, Vi.iop_sub, Vi.it_l, Vi.it_t, Vi.it_s, Vi.lentOk, Vi.outs_nil, Vi.outs_fz, Vi.outs_c, List.tail_cons, Vi.killE, Vi.noOwn, Vi.closed, Vi.closeds, Vi.closedD, Vi.closeds_ints, Vi.wipeE, Vi.resE, Vi.bd_nm, Vi.bd_tp, Vi.bdN, Vi.bdT, Vi.bdsN, Vi.bdNil, Vi.bdCons, Vi.Tg.js, Vi.partM, Vi.eq_int, Vi.eq_str, Vi.eq_bool, Vi.eq_ints], by simp -implicitDefEqProofs [b__law_near_2, Vi.bind_ok, Vi.bind_bad, Vi.bind_ex, Vi.so_ok, Vi.sb_nx, Vi.sb_ret, Vi.sb_bad, Vi.d_fz, Vi.d_olI, Vi.d_ol, Vi.o_some, Vi.tst_b, Vi.tst_i, Vi.tst_l, Vi.tst_s, Vi.tst_n, Vi.oB_some, Vi.oP_some, Vi.oL_some, Vi.rdV_fz, Vi.rdV_ol, Vi.rdV2_some, Vi.mvV_ol, Vi.mvV_fz, Vi.rdVar_c, Vi.ev_var, Vi.ev_mv, Vi.ev_int, Vi.ev_bl, Vi.ev_non, Vi.ev_str, Vi.ev_gi, Vi.ev_gs, Vi.ev_bin, Vi.ev_neg, Vi.ev_cmp, Vi.evT_cmp, Vi.ev_chain, Vi.ev_one, Vi.andK_b, Vi.orK_b, Vi.notK_b, Vi.ev_and, Vi.ev_or, Vi.ev_not, Vi.isB_b, Vi.ev_ite, Vi.ev_tup, Vi.ev_lst, Vi.ev_ix, Vi.ev_slc, Vi.evP_no, Vi.evP_yes, Vi.ev_call, Vi.calK_some, Vi.calR_ok, Vi.evA_nil, Vi.evA_e, Vi.evA_o, Vi.args_nil, Vi.args_e, Vi.args_o, Vi.argK_s, Vi.asm_nil, Vi.asm_e, Vi.asm_o, Vi.asmK_s, Vi.lent_ol, Vi.lent_sc, Vi.lent_fz, Vi.put_nil, Vi.put_e, Vi.put_o, Vi.ev_blt, Vi.ev_isi, Vi.ev_lsc, Vi.lscK_s, Vi.cmpK_ok, Vi.ev_lc, Vi.evC_no, Vi.evC_yes, Vi.evI_e, Vi.evI_r1, Vi.evI_r2, Vi.evs_nil, Vi.evs_cons, Vi.evO_nil, Vi.evO_cons, Vi.olO_s, Vi.olOf_c, Vi.appK_s, Vi.appK2_s, Vi.ev_app, Vi.ev_mt, Vi.evT_mt, Vi.appNK_s, Vi.ev_appN, Vi.inOf_c, Vi.inK_s, Vi.inK2_s, Vi.mvixK_s, Vi.ev_mvix, Vi.ev_rev, Vi.ev_repC, Vi.evT_rev, Vi.evI_en, Vi.evI_rv, Vi.evI_rg, Vi.rgK_s, Vi.asgTK_s, Vi.ex_asgT, Vi.bwsK_nx, Vi.bwsK_ret, Vi.ex_bws, Vi.ex_rais, Vi.tryK_nx, Vi.tryK_ret, Vi.ex_try, Vi.so_ex, Vi.sb_ex, Vi.d_ex, Vi.runK_ex, Vi.calR_ex, Vi.keepE, Vi.cloF, Vi.closedR, Vi.bwK_ok, Vi.ev_bw, Vi.bwK'_ok, Vi.evT_bw, Vi.evT_chain, Vi.evT_one, Vi.evT_and, Vi.evT_or, Vi.evT_not, Vi.evT_var, Vi.evT_call, Vi.evT_isi, Vi.evT_blt, Vi.evT_ix, Vi.evT_bin, Vi.evT_bl, Vi.ex_pass, Vi.ex_asg, Vi.ex_expr, Vi.ex_ret, Vi.ex_retN, Vi.ex_if, Vi.ex_for, Vi.setK_s, Vi.setK2_s, Vi.setK3_s, Vi.ex_set, Vi.ex_aug, Vi.ex_augS, Vi.augM, Vi.augSM, Vi.exs_nil, Vi.exs_cons, Vi.run_b, Vi.runK_ret, Vi.runK_nx, Vi.frzE_nil, Vi.frz_cons, Vi.frzK_ol, Vi.frzK2_s, Vi.frzK_fz, Vi.frzK_no, Vi.frzK_olI, Vi.rdV_olI, Vi.mvV_olI, Vi.olO_olI, Vi.lent_olI, Vi.closed_olI, Vi.dOf_fz, Vi.dOf_olI, Vi.dOf_olI', Vi.dsOf_fz, Vi.dsOf_ints, Vi.dsOf_nil, Vi.dsOf_cons, Option.map_some, Vi.binD, Vi.add_int, Vi.sub_int, Vi.cmpD, Vi.lt_int, Vi.le_int, Vi.gt_int, Vi.ge_int, Vi.neg_int, Vi.bf_len_l, Vi.bf_len_t, Vi.bf_len_s, Vi.bf_abs, Vi.bf_int, Vi.bf_intb, Vi.bf_max2, Vi.bf_min2, Vi.bf_list_l, Vi.bf_list_t, Vi.bf_tup_l, Vi.bf_sum, Vi.ix_l, Vi.ix_t, Vi.ix_s, Vi.isiD, Vi.chain2_eq, Vi.chainK_b, Vi.iop_add, Vi.iop_sub, Vi.it_l, Vi.it_t, Vi.it_s, Vi.lentOk, Vi.outs_nil, Vi.outs_fz, Vi.outs_c, List.tail_cons, Vi.killE, Vi.noOwn, Vi.closed, Vi.closeds, Vi.closedD, Vi.closeds_ints, Vi.wipeE, Vi.resE, Vi.bd_nm, Vi.bd_tp, Vi.bdN, Vi.bdT, Vi.bdsN, Vi.bdNil, Vi.bdCons, Vi.Tg.js, Vi.partM, Vi.eq_int, Vi.eq_str, Vi.eq_bool, Vi.eq_ints, c1, c2, s1, s2, e], _, rfl⟩
          · rw [show decide ([sg l x.toNat] = [sg l (x.toNat + p)]) = false from decide_eq_false q] at e mi
            have fm : [x].filter (misI l p) = [x] := by simp [mi]
            rw [fm, List.length_append]
            generalize ((d.filter (misI l p)).length : Nat) = W
            generalize sg l x.toNat = A at s1 e
            generalize sg l (x.toNat + p) = B at s2 e
            exact ⟨[some (.fz (tx l)), some (.fz (.int (k : Nat))), some (.fz (.int (n : Nat))), some (.fz (.int (p : Nat))), some (.fz (.int (W : Nat))), some (.fz (.int x))], [some (.fz (tx l)), some (.fz (.int (k : Nat))), some (.fz (.int (n : Nat))), some (.fz (.int (p : Nat))), some (.fz (.int ((W : Nat) + 1))), some (.fz (.int x))], by simp -implicitDefEqProofs [Vi.bind_ok, Vi.bind_bad, Vi.bind_ex, Vi.so_ok, Vi.sb_nx, Vi.sb_ret, Vi.sb_bad, Vi.d_fz, Vi.d_olI, Vi.d_ol, Vi.o_some, Vi.tst_b, Vi.tst_i, Vi.tst_l, Vi.tst_s, Vi.tst_n, Vi.oB_some, Vi.oP_some, Vi.oL_some, Vi.rdV_fz, Vi.rdV_ol, Vi.rdV2_some, Vi.mvV_ol, Vi.mvV_fz, Vi.rdVar_c, Vi.ev_var, Vi.ev_mv, Vi.ev_int, Vi.ev_bl, Vi.ev_non, Vi.ev_str, Vi.ev_gi, Vi.ev_gs, Vi.ev_bin, Vi.ev_neg, Vi.ev_cmp, Vi.evT_cmp, Vi.ev_chain, Vi.ev_one, Vi.andK_b, Vi.orK_b, Vi.notK_b, Vi.ev_and, Vi.ev_or, Vi.ev_not, Vi.isB_b, Vi.ev_ite, Vi.ev_tup, Vi.ev_lst, Vi.ev_ix, Vi.ev_slc, Vi.evP_no, Vi.evP_yes, Vi.ev_call, Vi.calK_some, Vi.calR_ok, Vi.evA_nil, Vi.evA_e, Vi.evA_o, Vi.args_nil, Vi.args_e, Vi.args_o, Vi.argK_s, Vi.asm_nil, Vi.asm_e, Vi.asm_o, Vi.asmK_s, Vi.lent_ol, Vi.lent_sc, Vi.lent_fz, Vi.put_nil, Vi.put_e, Vi.put_o, Vi.ev_blt, Vi.ev_isi, Vi.ev_lsc, Vi.lscK_s, Vi.cmpK_ok, Vi.ev_lc, Vi.evC_no, Vi.evC_yes, Vi.evI_e, Vi.evI_r1, Vi.evI_r2, Vi.evs_nil, Vi.evs_cons, Vi.evO_nil, Vi.evO_cons, Vi.olO_s, Vi.olOf_c, Vi.appK_s, Vi.appK2_s, Vi.ev_app, Vi.ev_mt, Vi.evT_mt, Vi.appNK_s, Vi.ev_appN, Vi.inOf_c, Vi.inK_s, Vi.inK2_s, Vi.mvixK_s, Vi.ev_mvix, Vi.ev_rev, Vi.ev_repC, Vi.evT_rev, Vi.evI_en, Vi.evI_rv, Vi.evI_rg, Vi.rgK_s, Vi.asgTK_s, Vi.ex_asgT, Vi.bwsK_nx, Vi.bwsK_ret, Vi.ex_bws, Vi.ex_rais, Vi.tryK_nx, Vi.tryK_ret, Vi.ex_try, Vi.so_ex, Vi.sb_ex, Vi.d_ex, Vi.runK_ex, Vi.calR_ex, Vi.keepE, Vi.cloF, Vi.closedR, Vi.bwK_ok, Vi.ev_bw, Vi.bwK'_ok, Vi.evT_bw, Vi.evT_chain, Vi.evT_one, Vi.evT_and, Vi.evT_or, Vi.evT_not, Vi.evT_var, Vi.evT_call, Vi.evT_isi, Vi.evT_blt, Vi.evT_ix, Vi.evT_bin, Vi.evT_bl, Vi.ex_pass, Vi.ex_asg, Vi.ex_expr, Vi.ex_ret, Vi.ex_retN, Vi.ex_if, Vi.ex_for, Vi.setK_s, Vi.setK2_s, Vi.setK3_s, Vi.ex_set, Vi.ex_aug, Vi.ex_augS, Vi.augM, Vi.augSM, Vi.exs_nil, Vi.exs_cons, Vi.run_b, Vi.runK_ret, Vi.runK_nx, Vi.frzE_nil, Vi.frz_cons, Vi.frzK_ol, Vi.frzK2_s, Vi.frzK_fz, Vi.frzK_no, Vi.frzK_olI, Vi.rdV_olI, Vi.mvV_olI, Vi.olO_olI, Vi.lent_olI, Vi.closed_olI, Vi.dOf_fz, Vi.dOf_olI, Vi.dOf_olI', Vi.dsOf_fz, Vi.dsOf_ints, Vi.dsOf_nil, Vi.dsOf_cons, Option.map_some, Vi.binD, Vi.add_int, Vi.sub_int, Vi.cmpD, Vi.lt_int, Vi.le_int, Vi.gt_int, Vi.ge_int, Vi.neg_int, Vi.bf_len_l, Vi.bf_len_t, Vi.bf_len_s, Vi.bf_abs, Vi.bf_int, Vi.bf_intb, Vi.bf_max2, Vi.bf_min2, Vi.bf_list_l, Vi.bf_list_t, Vi.bf_tup_l, Vi.bf_sum, Vi.ix_l, Vi.ix_t, Vi.ix_s, Vi.isiD, Vi.chain2_eq, Vi.chainK_b, Vi.iop_add, Vi.iop_sub, Vi.it_l, Vi.it_t, Vi.it_s, Vi.lentOk, Vi.outs_nil, Vi.outs_fz, Vi.outs_c, List.tail_cons, Vi.killE, Vi.noOwn, Vi.closed, Vi.closeds, Vi.closedD, Vi.closeds_ints, Vi.wipeE, Vi.resE, Vi.bd_nm, Vi.bd_tp, Vi.bdN, Vi.bdT, Vi.bdsN, Vi.bdNil, Vi.bdCons, Vi.Tg.js, Vi.partM, Vi.eq_int, Vi.eq_str, Vi.eq_bool, Vi.eq_ints], by simp -implicitDefEqProofs [b__law_near_2, Vi.bind_ok, Vi.bind_bad, Vi.bind_ex, Vi.so_ok, Vi.sb_nx, Vi.sb_ret, Vi.sb_bad, Vi.d_fz, Vi.d_olI, Vi.d_ol, Vi.o_some, Vi.tst_b, Vi.tst_i, Vi.tst_l, Vi.tst_s, Vi.tst_n, Vi.oB_some, Vi.oP_some, Vi.oL_some, Vi.rdV_fz, Vi.rdV_ol, Vi.rdV2_some, Vi.mvV_ol, Vi.mvV_fz, Vi.rdVar_c, Vi.ev_var, Vi.ev_mv, Vi.ev_int, Vi.ev_bl, Vi.ev_non, Vi.ev_str, Vi.ev_gi, Vi.ev_gs, Vi.ev_bin, Vi.ev_neg, Vi.ev_cmp, Vi.evT_cmp, Vi.ev_chain, Vi.ev_one, Vi.andK_b, Vi.orK_b, Vi.notK_b, Vi.ev_and, Vi.ev_or, Vi.ev_not, Vi.isB_b, Vi.ev_ite, Vi.ev_tup, Vi.ev_lst, Vi.ev_ix, Vi.ev_slc, Vi.evP_no, Vi.evP_yes, Vi.ev_call, Vi.calK_some, Vi.calR_ok, Vi.evA_nil, Vi.evA_e, Vi.evA_o, Vi.args_nil, Vi.args_e, Vi.args_o, Vi.argK_s, Vi.asm_nil, Vi.asm_e, Vi.asm_o, Vi.asmK_s, Vi.lent_ol, Vi.lent_sc, Vi.lent_fz, Vi.put_nil, Vi.put_e, Vi.put_o, Vi.ev_blt, Vi.ev_isi, Vi.ev_lsc, Vi.lscK_s, Vi.cmpK_ok, Vi.ev_lc, Vi.evC_no, Vi.evC_yes, Vi.evI_e, Vi.evI_r1, Vi.evI_r2, Vi.evs_nil, Vi.evs_cons, Vi.evO_nil, Vi.evO_cons, Vi.olO_s, Vi.olOf_c, Vi.appK_s, Vi.appK2_s, Vi.ev_app, Vi.ev_mt, Vi.evT_mt, Vi.appNK_s, Vi.ev_appN, Vi.inOf_c, Vi.inK_s, Vi.inK2_s, Vi.mvixK_s, Vi.ev_mvix, Vi.ev_rev, Vi.ev_repC, Vi.evT_rev, Vi.evI_en, Vi.evI_rv, Vi.evI_rg, Vi.rgK_s, Vi.asgTK_s, Vi.ex_asgT, Vi.bwsK_nx, Vi.bwsK_ret, Vi.ex_bws, Vi.ex_rais, Vi.tryK_nx, Vi.tryK_ret, Vi.ex_try, Vi.so_ex, Vi.sb_ex, Vi.d_ex, Vi.runK_ex, Vi.calR_ex, Vi.keepE, Vi.cloF, Vi.closedR, Vi.bwK_ok, Vi.ev_bw, Vi.bwK'_ok, Vi.evT_bw, Vi.evT_chain, Vi.evT_one, Vi.evT_and, Vi.evT_or, Vi.evT_not, Vi.evT_var, Vi.evT_call, Vi.evT_isi, Vi.evT_blt, Vi.evT_ix, Vi.evT_bin, Vi.evT_bl, Vi.ex_pass, Vi.ex_asg, Vi.ex_expr, Vi.ex_ret, Vi.ex_retN, Vi.ex_if, Vi.ex_for, Vi.setK_s, Vi.setK2_s, Vi.setK3_s, Vi.ex_set, Vi.ex_aug, Vi.ex_augS, Vi.augM, Vi.augSM, Vi.exs_nil, Vi.exs_cons, Vi.run_b, Vi.runK_ret, Vi.runK_nx, Vi.frzE_nil, Vi.frz_cons, Vi.frzK_ol, Vi.frzK2_s, Vi.frzK_fz, Vi.frzK_no, Vi.frzK_olI, Vi.rdV_olI, Vi.mvV_olI, Vi.olO_olI, Vi.lent_olI, Vi.closed_olI, Vi.dOf_fz, Vi.dOf_olI, Vi.dOf_olI', Vi.dsOf_fz, Vi.dsOf_ints, Vi.dsOf_nil, Vi.dsOf_cons, Option.map_some, Vi.binD, Vi.add_int, Vi.sub_int, Vi.cmpD, Vi.lt_int, Vi.le_int, Vi.gt_int, Vi.ge_int, Vi.neg_int, Vi.bf_len_l, Vi.bf_len_t, Vi.bf_len_s, Vi.bf_abs, Vi.bf_int, Vi.bf_intb, Vi.bf_max2, Vi.bf_min2, Vi.bf_list_l, Vi.bf_list_t, Vi.bf_tup_l, Vi.bf_sum, Vi.ix_l, Vi.ix_t, Vi.ix_s, Vi.isiD, Vi.chain2_eq, Vi.chainK_b, Vi.iop_add, Vi.iop_sub, Vi.it_l, Vi.it_t, Vi.it_s, Vi.lentOk, Vi.outs_nil, Vi.outs_fz, Vi.outs_c, List.tail_cons, Vi.killE, Vi.noOwn, Vi.closed, Vi.closeds, Vi.closedD, Vi.closeds_ints, Vi.wipeE, Vi.resE, Vi.bd_nm, Vi.bd_tp, Vi.bdN, Vi.bdT, Vi.bdsN, Vi.bdNil, Vi.bdCons, Vi.Tg.js, Vi.partM, Vi.eq_int, Vi.eq_str, Vi.eq_bool, Vi.eq_ints, c1, c2, s1, s2, e], _, rfl⟩
        · have mi : misI l p x = false := by unfold misI; simp [c2, hL]
          have fm : [x].filter (misI l p) = [] := by simp [mi]
          rw [fm, List.append_nil]
          generalize ((d.filter (misI l p)).length : Nat) = W
          exact ⟨[some (.fz (tx l)), some (.fz (.int (k : Nat))), some (.fz (.int (n : Nat))), some (.fz (.int (p : Nat))), some (.fz (.int (W : Nat))), some (.fz (.int x))], [some (.fz (tx l)), some (.fz (.int (k : Nat))), some (.fz (.int (n : Nat))), some (.fz (.int (p : Nat))), some (.fz (.int (W : Nat))), some (.fz (.int x))], by simp -implicitDefEqProofs [Vi.bind_ok, Vi.bind_bad, Vi.bind_ex, Vi.so_ok, Vi.sb_nx, Vi.sb_ret, Vi.sb_bad, Vi.d_fz, Vi.d_olI, Vi.d_ol, Vi.o_some, Vi.tst_b, Vi.tst_i, Vi.tst_l, Vi.tst_s, Vi.tst_n, Vi.oB_some, Vi.oP_some, Vi.oL_some, Vi.rdV_fz, Vi.rdV_ol, Vi.rdV2_some, Vi.mvV_ol, Vi.mvV_fz, Vi.rdVar_c, Vi.ev_var, Vi.ev_mv, Vi.ev_int, Vi.ev_bl, Vi.ev_non, Vi.ev_str, Vi.ev_gi, Vi.ev_gs, Vi.ev_bin, Vi.ev_neg, Vi.ev_cmp, Vi.evT_cmp, Vi.ev_chain, Vi.ev_one, Vi.andK_b, Vi.orK_b, Vi.notK_b, Vi.ev_and, Vi.ev_or, Vi.ev_not, Vi.isB_b, Vi.ev_ite, Vi.ev_tup, Vi.ev_lst, Vi.ev_ix, Vi.ev_slc, Vi.evP_no, Vi.evP_yes, Vi.ev_call, Vi.calK_some, Vi.calR_ok, Vi.evA_nil, Vi.evA_e, Vi.evA_o, Vi.args_nil, Vi.args_e, Vi.args_o, Vi.argK_s, Vi.asm_nil, Vi.asm_e, Vi.asm_o, Vi.asmK_s, Vi.lent_ol, Vi.lent_sc, Vi.lent_fz, Vi.put_nil, Vi.put_e, Vi.put_o, Vi.ev_blt, Vi.ev_isi, Vi.ev_lsc, Vi.lscK_s, Vi.cmpK_ok, Vi.ev_lc, Vi.evC_no, Vi.evC_yes, Vi.evI_e, Vi.evI_r1, Vi.evI_r2, Vi.evs_nil, Vi.evs_cons, Vi.evO_nil, Vi.evO_cons, Vi.olO_s, Vi.olOf_c, Vi.appK_s, Vi.appK2_s, Vi.ev_app, Vi.ev_mt, Vi.evT_mt, Vi.appNK_s, Vi.ev_appN, Vi.inOf_c, Vi.inK_s, Vi.inK2_s, Vi.mvixK_s, Vi.ev_mvix, Vi.ev_rev, Vi.ev_repC, Vi.evT_rev, Vi.evI_en, Vi.evI_rv, Vi.evI_rg, Vi.rgK_s, Vi.asgTK_s, Vi.ex_asgT, Vi.bwsK_nx, Vi.bwsK_ret, Vi.ex_bws, Vi.ex_rais, Vi.tryK_nx, Vi.tryK_ret, Vi.ex_try, Vi.so_ex, Vi.sb_ex, Vi.d_ex, Vi.runK_ex, Vi.calR_ex, Vi.keepE, Vi.cloF, Vi.closedR, Vi.bwK_ok, Vi.ev_bw, Vi.bwK'_ok, Vi.evT_bw, Vi.evT_chain, Vi.evT_one, Vi.evT_and, Vi.evT_or, Vi.evT_not, Vi.evT_var, Vi.evT_call, Vi.evT_isi, Vi.evT_blt, Vi.evT_ix, Vi.evT_bin, Vi.evT_bl, Vi.ex_pass, Vi.ex_asg, Vi.ex_expr, Vi.ex_ret, Vi.ex_retN, Vi.ex_if, Vi.ex_for, Vi.setK_s, Vi.setK2_s, Vi.setK3_s, Vi.ex_set, Vi.ex_aug, Vi.ex_augS, Vi.augM, Vi.augSM, Vi.exs_nil, Vi.exs_cons, Vi.run_b, Vi.runK_ret, Vi.runK_nx, Vi.frzE_nil, Vi.frz_cons, Vi.frzK_ol, Vi.frzK2_s, Vi.frzK_fz, Vi.frzK_no, Vi.frzK_olI, Vi.rdV_olI, Vi.mvV_olI, Vi.olO_olI, Vi.lent_olI, Vi.closed_olI, Vi.dOf_fz, Vi.dOf_olI, Vi.dOf_olI', Vi.dsOf_fz, Vi.dsOf_ints, Vi.dsOf_nil, Vi.dsOf_cons, Option.map_some, Vi.binD, Vi.add_int, Vi.sub_int, Vi.cmpD, Vi.lt_int, Vi.le_int, Vi.gt_int, Vi.ge_int, Vi.neg_int, Vi.bf_len_l, Vi.bf_len_t, Vi.bf_len_s, Vi.bf_abs, Vi.bf_int, Vi.bf_intb, Vi.bf_max2, Vi.bf_min2, Vi.bf_list_l, Vi.bf_list_t, Vi.bf_tup_l, Vi.bf_sum, Vi.ix_l, Vi.ix_t, Vi.ix_s, Vi.isiD, Vi.chain2_eq, Vi.chainK_b, Vi.iop_add, Vi.iop_sub, Vi.it_l, Vi.it_t, Vi.it_s, Vi.lentOk, Vi.outs_nil, Vi.outs_fz, Vi.outs_c, List.tail_cons, Vi.killE, Vi.noOwn, Vi.closed, Vi.closeds, Vi.closedD, Vi.closeds_ints, Vi.wipeE, Vi.resE, Vi.bd_nm, Vi.bd_tp, Vi.bdN, Vi.bdT, Vi.bdsN, Vi.bdNil, Vi.bdCons, Vi.Tg.js, Vi.partM, Vi.eq_int, Vi.eq_str, Vi.eq_bool, Vi.eq_ints], by simp -implicitDefEqProofs [b__law_near_2, Vi.bind_ok, Vi.bind_bad, Vi.bind_ex, Vi.so_ok, Vi.sb_nx, Vi.sb_ret, Vi.sb_bad, Vi.d_fz, Vi.d_olI, Vi.d_ol, Vi.o_some, Vi.tst_b, Vi.tst_i, Vi.tst_l, Vi.tst_s, Vi.tst_n, Vi.oB_some, Vi.oP_some, Vi.oL_some, Vi.rdV_fz, Vi.rdV_ol, Vi.rdV2_some, Vi.mvV_ol, Vi.mvV_fz, Vi.rdVar_c, Vi.ev_var, Vi.ev_mv, Vi.ev_int, Vi.ev_bl, Vi.ev_non, Vi.ev_str, Vi.ev_gi, Vi.ev_gs, Vi.ev_bin, Vi.ev_neg, Vi.ev_cmp, Vi.evT_cmp, Vi.ev_chain, Vi.ev_one, Vi.andK_b, Vi.orK_b, Vi.notK_b, Vi.ev_and, Vi.ev_or, Vi.ev_not, Vi.isB_b, Vi.ev_ite, Vi.ev_tup, Vi.ev_lst, Vi.ev_ix, Vi.ev_slc, Vi.evP_no, Vi.evP_yes, Vi.ev_call, Vi.calK_some, Vi.calR_ok, Vi.evA_nil, Vi.evA_e, Vi.evA_o, Vi.args_nil, Vi.args_e, Vi.args_o, Vi.argK_s, Vi.asm_nil, Vi.asm_e, Vi.asm_o, Vi.asmK_s, Vi.lent_ol, Vi.lent_sc, Vi.lent_fz, Vi.put_nil, Vi.put_e, Vi.put_o, Vi.ev_blt, Vi.ev_isi, Vi.ev_lsc, Vi.lscK_s, Vi.cmpK_ok, Vi.ev_lc, Vi.evC_no, Vi.evC_yes, Vi.evI_e, Vi.evI_r1, Vi.evI_r2, Vi.evs_nil, Vi.evs_cons, Vi.evO_nil, Vi.evO_cons, Vi.olO_s, Vi.olOf_c, Vi.appK_s, Vi.appK2_s, Vi.ev_app, Vi.ev_mt, Vi.evT_mt, Vi.appNK_s, Vi.ev_appN, Vi.inOf_c, Vi.inK_s, Vi.inK2_s, Vi.mvixK_s, Vi.ev_mvix, Vi.ev_rev, Vi.ev_repC, Vi.evT_rev, Vi.evI_en, Vi.evI_rv, Vi.evI_rg, Vi.rgK_s, Vi.asgTK_s, Vi.ex_asgT, Vi.bwsK_nx, Vi.bwsK_ret, Vi.ex_bws, Vi.ex_rais, Vi.tryK_nx, Vi.tryK_ret, Vi.ex_try, Vi.so_ex, Vi.sb_ex, Vi.d_ex, Vi.runK_ex, Vi.calR_ex, Vi.keepE, Vi.cloF, Vi.closedR, Vi.bwK_ok, Vi.ev_bw, Vi.bwK'_ok, Vi.evT_bw, Vi.evT_chain, Vi.evT_one, Vi.evT_and, Vi.evT_or, Vi.evT_not, Vi.evT_var, Vi.evT_call, Vi.evT_isi, Vi.evT_blt, Vi.evT_ix, Vi.evT_bin, Vi.evT_bl, Vi.ex_pass, Vi.ex_asg, Vi.ex_expr, Vi.ex_ret, Vi.ex_retN, Vi.ex_if, Vi.ex_for, Vi.setK_s, Vi.setK2_s, Vi.setK3_s, Vi.ex_set, Vi.ex_aug, Vi.ex_augS, Vi.augM, Vi.augSM, Vi.exs_nil, Vi.exs_cons, Vi.run_b, Vi.runK_ret, Vi.runK_nx, Vi.frzE_nil, Vi.frz_cons, Vi.frzK_ol, Vi.frzK2_s, Vi.frzK_fz, Vi.frzK_no, Vi.frzK_olI, Vi.rdV_olI, Vi.mvV_olI, Vi.olO_olI, Vi.lent_olI, Vi.closed_olI, Vi.dOf_fz, Vi.dOf_olI, Vi.dOf_olI', Vi.dsOf_fz, Vi.dsOf_ints, Vi.dsOf_nil, Vi.dsOf_cons, Option.map_some, Vi.binD, Vi.add_int, Vi.sub_int, Vi.cmpD, Vi.lt_int, Vi.le_int, Vi.gt_int, Vi.ge_int, Vi.neg_int, Vi.bf_len_l, Vi.bf_len_t, Vi.bf_len_s, Vi.bf_abs, Vi.bf_int, Vi.bf_intb, Vi.bf_max2, Vi.bf_min2, Vi.bf_list_l, Vi.bf_list_t, Vi.bf_tup_l, Vi.bf_sum, Vi.ix_l, Vi.ix_t, Vi.ix_s, Vi.isiD, Vi.chain2_eq, Vi.chainK_b, Vi.iop_add, Vi.iop_sub, Vi.it_l, Vi.it_t, Vi.it_s, Vi.lentOk, Vi.outs_nil, Vi.outs_fz, Vi.outs_c, List.tail_cons, Vi.killE, Vi.noOwn, Vi.closed, Vi.closeds, Vi.closedD, Vi.closeds_ints, Vi.wipeE, Vi.resE, Vi.bd_nm, Vi.bd_tp, Vi.bdN, Vi.bdT, Vi.bdsN, Vi.bdNil, Vi.bdCons, Vi.Tg.js, Vi.partM, Vi.eq_int, Vi.eq_str, Vi.eq_bool, Vi.eq_ints, c1, c2], _, rfl⟩
      · have mi : misI l p x = false := by unfold misI; simp [c1]
        have fm : [x].filter (misI l p) = [] := by simp [mi]
        rw [fm, List.append_nil]
        generalize ((d.filter (misI l p)).length : Nat) = W
        exact ⟨[some (.fz (tx l)), some (.fz (.int (k : Nat))), some (.fz (.int (n : Nat))), some (.fz (.int (p : Nat))), some (.fz (.int (W : Nat))), some (.fz (.int x))], [some (.fz (tx l)), some (.fz (.int (k : Nat))), some (.fz (.int (n : Nat))), some (.fz (.int (p : Nat))), some (.fz (.int (W : Nat))), some (.fz (.int x))], by simp -implicitDefEqProofs [Vi.bind_ok, Vi.bind_bad, Vi.bind_ex, Vi.so_ok, Vi.sb_nx, Vi.sb_ret, Vi.sb_bad, Vi.d_fz, Vi.d_olI, Vi.d_ol, Vi.o_some, Vi.tst_b, Vi.tst_i, Vi.tst_l, Vi.tst_s, Vi.tst_n, Vi.oB_some, Vi.oP_some, Vi.oL_some, Vi.rdV_fz, Vi.rdV_ol, Vi.rdV2_some, Vi.mvV_ol, Vi.mvV_fz, Vi.rdVar_c, Vi.ev_var, Vi.ev_mv, Vi.ev_int, Vi.ev_bl, Vi.ev_non, Vi.ev_str, Vi.ev_gi, Vi.ev_gs, Vi.ev_bin, Vi.ev_neg, Vi.ev_cmp, Vi.evT_cmp, Vi.ev_chain, Vi.ev_one, Vi.andK_b, Vi.orK_b, Vi.notK_b, Vi.ev_and, Vi.ev_or, Vi.ev_not, Vi.isB_b, Vi.ev_ite, Vi.ev_tup, Vi.ev_lst, Vi.ev_ix, Vi.ev_slc, Vi.evP_no, Vi.evP_yes, Vi.ev_call, Vi.calK_some, Vi.calR_ok, Vi.evA_nil, Vi.evA_e, Vi.evA_o, Vi.args_nil, Vi.args_e, Vi.args_o, Vi.argK_s, Vi.asm_nil, Vi.asm_e, Vi.asm_o, Vi.asmK_s, Vi.lent_ol, Vi.lent_sc, Vi.lent_fz, Vi.put_nil, Vi.put_e, Vi.put_o, Vi.ev_blt, Vi.ev_isi, Vi.ev_lsc, Vi.lscK_s, Vi.cmpK_ok, Vi.ev_lc, Vi.evC_no, Vi.evC_yes, Vi.evI_e, Vi.evI_r1, Vi.evI_r2, Vi.evs_nil, Vi.evs_cons, Vi.evO_nil, Vi.evO_cons, Vi.olO_s, Vi.olOf_c, Vi.appK_s, Vi.appK2_s, Vi.ev_app, Vi.ev_mt, Vi.evT_mt, Vi.appNK_s, Vi.ev_appN, Vi.inOf_c, Vi.inK_s, Vi.inK2_s, Vi.mvixK_s, Vi.ev_mvix, Vi.ev_rev, Vi.ev_repC, Vi.evT_rev, Vi.evI_en, Vi.evI_rv, Vi.evI_rg, Vi.rgK_s, Vi.asgTK_s, Vi.ex_asgT, Vi.bwsK_nx, Vi.bwsK_ret, Vi.ex_bws, Vi.ex_rais, Vi.tryK_nx, Vi.tryK_ret, Vi.ex_try, Vi.so_ex, Vi.sb_ex, Vi.d_ex, Vi.runK_ex, Vi.calR_ex, Vi.keepE, Vi.cloF, Vi.closedR, Vi.bwK_ok, Vi.ev_bw, Vi.bwK'_ok, Vi.evT_bw, Vi.evT_chain, Vi.evT_one, Vi.evT_and, Vi.evT_or, Vi.evT_not, Vi.evT_var, Vi.evT_call, Vi.evT_isi, Vi.evT_blt, Vi.evT_ix, Vi.evT_bin, Vi.evT_bl, Vi.ex_pass, Vi.ex_asg, Vi.ex_expr, Vi.ex_ret, Vi.ex_retN, Vi.ex_if, Vi.ex_for, Vi.setK_s, Vi.setK2_s, Vi.setK3_s, Vi.ex_set, Vi.ex_aug, Vi.ex_augS, Vi.augM, Vi.augSM, Vi.exs_nil, Vi.exs_cons, Vi.run_b, Vi.runK_ret, Vi.runK_nx, Vi.frzE_nil, Vi.frz_cons, Vi.frzK_ol, Vi.frzK2_s, Vi.frzK_fz, Vi.frzK_no, Vi.frzK_olI, Vi.rdV_olI, Vi.mvV_olI, Vi.olO_olI, Vi.lent_olI, Vi.closed_olI, Vi.dOf_fz, Vi.dOf_olI, Vi.dOf_olI', Vi.dsOf_fz, Vi.dsOf_ints, Vi.dsOf_nil, Vi.dsOf_cons, Option.map_some, Vi.binD, Vi.add_int, Vi.sub_int, Vi.cmpD, Vi.lt_int, Vi.le_int, Vi.gt_int, Vi.ge_int, Vi.neg_int, Vi.bf_len_l, Vi.bf_len_t, Vi.bf_len_s, Vi.bf_abs, Vi.bf_int, Vi.bf_intb, Vi.bf_max2, Vi.bf_min2, Vi.bf_list_l, Vi.bf_list_t, Vi.bf_tup_l, Vi.bf_sum, Vi.ix_l, Vi.ix_t, Vi.ix_s, Vi.isiD, Vi.chain2_eq, Vi.chainK_b, Vi.iop_add, Vi.iop_sub, Vi.it_l, Vi.it_t, Vi.it_s, Vi.lentOk, Vi.outs_nil, Vi.outs_fz, Vi.outs_c, List.tail_cons, Vi.killE, Vi.noOwn, Vi.closed, Vi.closeds, Vi.closedD, Vi.closeds_ints, Vi.wipeE, Vi.resE, Vi.bd_nm, Vi.bd_tp, Vi.bdN, Vi.bdT, Vi.bdsN, Vi.bdNil, Vi.bdCons, Vi.Tg.js, Vi.partM, Vi.eq_int, Vi.eq_str, Vi.eq_bool, Vi.eq_ints], by simp -implicitDefEqProofs [b__law_near_2, Vi.bind_ok, Vi.bind_bad, Vi.bind_ex, Vi.so_ok, Vi.sb_nx, Vi.sb_ret, Vi.sb_bad, Vi.d_fz, Vi.d_olI, Vi.d_ol, Vi.o_some, Vi.tst_b, Vi.tst_i, Vi.tst_l, Vi.tst_s, Vi.tst_n, Vi.oB_some, Vi.oP_some, Vi.oL_some, Vi.rdV_fz, Vi.rdV_ol, Vi.rdV2_some, Vi.mvV_ol, Vi.mvV_fz, Vi.rdVar_c, Vi.ev_var, Vi.ev_mv, Vi.ev_int, Vi.ev_bl, Vi.ev_non, Vi.ev_str, Vi.ev_gi, Vi.ev_gs, Vi.ev_bin, Vi.ev_neg, Vi.ev_cmp, Vi.evT_cmp, Vi.ev_chain, Vi.ev_one, Vi.andK_b, Vi.orK_b, Vi.notK_b, Vi.ev_and, Vi.ev_or, Vi.ev_not, Vi.isB_b, Vi.ev_ite, Vi.ev_tup, Vi.ev_lst, Vi.ev_ix, Vi.ev_slc, Vi.evP_no, Vi.evP_yes, Vi.ev_call, Vi.calK_some, Vi.calR_ok, Vi.evA_nil, Vi.evA_e, Vi.evA_o, Vi.args_nil, Vi.args_e, Vi.args_o, Vi.argK_s, Vi.asm_nil, Vi.asm_e, Vi.asm_o, Vi.asmK_s, Vi.lent_ol, Vi.lent_sc, Vi.lent_fz, Vi.put_nil, Vi.put_e, Vi.put_o, Vi.ev_blt, Vi.ev_isi, Vi.ev_lsc, Vi.lscK_s, Vi.cmpK_ok, Vi.ev_lc, Vi.evC_no, Vi.evC_yes, Vi.evI_e, Vi.evI_r1, Vi.evI_r2, Vi.evs_nil, Vi.evs_cons, Vi.evO_nil, Vi.evO_cons, Vi.olO_s, Vi.olOf_c, Vi.appK_s, Vi.appK2_s, Vi.ev_app, Vi.ev_mt, Vi.evT_mt, Vi.appNK_s, Vi.ev_appN, Vi.inOf_c, Vi.inK_s, Vi.inK2_s, Vi.mvixK_s, Vi.ev_mvix, Vi.ev_rev, Vi.ev_repC, Vi.evT_rev, Vi.evI_en, Vi.evI_rv, Vi.evI_rg, Vi.rgK_s, Vi.asgTK_s, Vi.ex_asgT, Vi.bwsK_nx, Vi.bwsK_ret, Vi.ex_bws, Vi.ex_rais, Vi.tryK_nx, Vi.tryK_ret, Vi.ex_try, Vi.so_ex, Vi.sb_ex, Vi.d_ex, Vi.runK_ex, Vi.calR_ex, Vi.keepE, Vi.cloF, Vi.closedR, Vi.bwK_ok, Vi.ev_bw, Vi.bwK'_ok, Vi.evT_bw, Vi.evT_chain, Vi.evT_one, Vi.evT_and, Vi.evT_or, Vi.evT_not, Vi.evT_var, Vi.evT_call, Vi.evT_isi, Vi.evT_blt, Vi.evT_ix, Vi.evT_bin, Vi.evT_bl, Vi.ex_pass, Vi.ex_asg, Vi.ex_expr, Vi.ex_ret, Vi.ex_retN, Vi.ex_if, Vi.ex_for, Vi.setK_s, Vi.setK2_s, Vi.setK3_s, Vi.ex_set, Vi.ex_aug, Vi.ex_augS, Vi.augM, Vi.augSM, Vi.exs_nil, Vi.exs_cons, Vi.run_b, Vi.runK_ret, Vi.runK_nx, Vi.frzE_nil, Vi.frz_cons, Vi.frzK_ol, Vi.frzK2_s, Vi.frzK_fz, Vi.frzK_no, Vi.frzK_olI, Vi.rdV_olI, Vi.mvV_olI, Vi.olO_olI, Vi.lent_olI, Vi.closed_olI, Vi.dOf_fz, Vi.dOf_olI, Vi.dOf_olI', Vi.dsOf_fz, Vi.dsOf_ints, Vi.dsOf_nil, Vi.dsOf_cons, Option.map_some, Vi.binD, Vi.add_int, Vi.sub_int, Vi.cmpD, Vi.lt_int, Vi.le_int, Vi.gt_int, Vi.ge_int, Vi.neg_int, Vi.bf_len_l, Vi.bf_len_t, Vi.bf_len_s, Vi.bf_abs, Vi.bf_int, Vi.bf_intb, Vi.bf_max2, Vi.bf_min2, Vi.bf_list_l, Vi.bf_list_t, Vi.bf_tup_l, Vi.bf_sum, Vi.ix_l, Vi.ix_t, Vi.ix_s, Vi.isiD, Vi.chain2_eq, Vi.chainK_b, Vi.iop_add, Vi.iop_sub, Vi.it_l, Vi.it_t, Vi.it_s, Vi.lentOk, Vi.outs_nil, Vi.outs_fz, Vi.outs_c, List.tail_cons, Vi.killE, Vi.noOwn, Vi.closed, Vi.closeds, Vi.closedD, Vi.closeds_ints, Vi.wipeE, Vi.resE, Vi.bd_nm, Vi.bd_tp, Vi.bdN, Vi.bdT, Vi.bdsN, Vi.bdNil, Vi.bdCons, Vi.Tg.js, Vi.partM, Vi.eq_int, Vi.eq_str, Vi.eq_bool, Vi.eq_ints, c1], _, rfl⟩)
  rw [List.nil_append] at h1
  exact ⟨y5, h1⟩
theorem ok_lnear {l : List Nat} (hl : l.length ≤ 1000) (h1 : 1 ≤ l.length) {k : Nat} (hk : k ≤ l.length) : den__law_near [.fz (tx l), .fz (.int (k : Nat))] = .ok (.fz (.int (nearV l k : Nat))) [none, none] := by
  have rr : rngD [.int 1, .int ((l.length : Int) + 1)] = some ((upF 1 (l.length + 1)).map fun i => .int (i : Nat)) := rng_upF (m := 1) (n := l.length + 1) (by omega) (by omega)
  rcases forL_stop (bd := bdG (.nm 3)) (mb := exs rho__law_near [] b__law_near_4) (g := fun i : Nat => .int (i : Nat)) (fun _ env => ∃ x3 x4 x5 : Option OV, env = [some (.fz (tx l)), some (.fz (.int (k : Nat))), some (.fz (.int (l.length : Nat))), x3, x4, x5]) (locB l k) (fun x R => ∃ e, R = .ret (.fz (.int (x : Nat))) e) (fun x R h e => by obtain ⟨e', rfl⟩ := h; exact fun z => nomatch z) (upF 1 (l.length + 1)) [] [some (.fz (tx l)), some (.fz (.int (k : Nat))), some (.fz (.int (l.length : Nat))), none, none, none] ⟨none, none, none, rfl⟩
    (by
      rintro d p r env he ⟨x3, x4, x5, rfl⟩
      refine ⟨[some (.fz (tx l)), some (.fz (.int (k : Nat))), some (.fz (.int (l.length : Nat))), some (.fz (.int (p : Nat))), x4, x5], by simp -implicitDefEqProofs [Vi.bind_ok, Vi.bind_bad, Vi.bind_ex, Vi.so_ok, Vi.sb_nx, Vi.sb_ret, Vi.sb_bad, Vi.d_fz, Vi.d_olI, Vi.d_ol, Vi.o_some, Vi.tst_b, Vi.tst_i, Vi.tst_l, Vi.tst_s, Vi.tst_n, Vi.oB_some, Vi.oP_some, Vi.oL_some, Vi.rdV_fz, Vi.rdV_ol, Vi.rdV2_some, Vi.mvV_ol, Vi.mvV_fz, Vi.rdVar_c, Vi.ev_var, Vi.ev_mv, Vi.ev_int, Vi.ev_bl, Vi.ev_non, Vi.ev_str, Vi.ev_gi, Vi.ev_gs, Vi.ev_bin, Vi.ev_neg, Vi.ev_cmp, Vi.evT_cmp, Vi.ev_chain, Vi.ev_one, Vi.andK_b, Vi.orK_b, Vi.notK_b, Vi.ev_and, Vi.ev_or, Vi.ev_not, Vi.isB_b, Vi.ev_ite, Vi.ev_tup, Vi.ev_lst, Vi.ev_ix, Vi.ev_slc, Vi.evP_no, Vi.evP_yes, Vi.ev_call, Vi.calK_some, Vi.calR_ok, Vi.evA_nil, Vi.evA_e, Vi.evA_o, Vi.args_nil, Vi.args_e, Vi.args_o, Vi.argK_s, Vi.asm_nil, Vi.asm_e, Vi.asm_o, Vi.asmK_s, Vi.lent_ol, Vi.lent_sc, Vi.lent_fz, Vi.put_nil, Vi.put_e, Vi.put_o, Vi.ev_blt, Vi.ev_isi, Vi.ev_lsc, Vi.lscK_s, Vi.cmpK_ok, Vi.ev_lc, Vi.evC_no, Vi.evC_yes, Vi.evI_e, Vi.evI_r1, Vi.evI_r2, Vi.evs_nil, Vi.evs_cons, Vi.evO_nil, Vi.evO_cons, Vi.olO_s, Vi.olOf_c, Vi.appK_s, Vi.appK2_s, Vi.ev_app, Vi.ev_mt, Vi.evT_mt, Vi.appNK_s, Vi.ev_appN, Vi.inOf_c, Vi.inK_s, Vi.inK2_s, Vi.mvixK_s, Vi.ev_mvix, Vi.ev_rev, Vi.ev_repC, Vi.evT_rev, Vi.evI_en, Vi.evI_rv, Vi.evI_rg, Vi.rgK_s, Vi.asgTK_s, Vi.ex_asgT, Vi.bwsK_nx, Vi.bwsK_ret, Vi.ex_bws, Vi.ex_rais, Vi.tryK_nx, Vi.tryK_ret, Vi.ex_try, Vi.so_ex, Vi.sb_ex, Vi.d_ex, Vi.runK_ex, Vi.calR_ex, Vi.keepE, Vi.cloF, Vi.closedR, Vi.bwK_ok, Vi.ev_bw, Vi.bwK'_ok, Vi.evT_bw, Vi.evT_chain, Vi.evT_one, Vi.evT_and, Vi.evT_or, Vi.evT_not, Vi.evT_var, Vi.evT_call, Vi.evT_isi, Vi.evT_blt, Vi.evT_ix, Vi.evT_bin, Vi.evT_bl, Vi.ex_pass, Vi.ex_asg, Vi.ex_expr, Vi.ex_ret, Vi.ex_retN, Vi.ex_if, Vi.ex_for, Vi.setK_s, Vi.setK2_s, Vi.setK3_s, Vi.ex_set, Vi.ex_aug, Vi.ex_augS, Vi.augM, Vi.augSM, Vi.exs_nil, Vi.exs_cons, Vi.run_b, Vi.runK_ret, Vi.runK_nx, Vi.frzE_nil, Vi.frz_cons, Vi.frzK_ol, Vi.frzK2_s, Vi.frzK_fz, Vi.frzK_no, Vi.frzK_olI, Vi.rdV_olI, Vi.mvV_olI, Vi.olO_olI, Vi.lent_olI, Vi.closed_olI, Vi.dOf_fz, Vi.dOf_olI, Vi.dOf_olI', Vi.dsOf_fz, Vi.dsOf_ints, Vi.dsOf_nil, Vi.dsOf_cons, Option.map_some, Vi.binD, Vi.add_int, Vi.sub_int, Vi.cmpD, Vi.lt_int, Vi.le_int, Vi.gt_int, Vi.ge_int, Vi.neg_int, Vi.bf_len_l, Vi.bf_len_t, Vi.bf_len_s, Vi.bf_abs, Vi.bf_int, Vi.bf_intb, Vi.bf_max2, Vi.bf_min2, Vi.bf_list_l, Vi.bf_list_t, Vi.bf_tup_l, Vi.bf_sum, Vi.ix_l, Vi.ix_t, Vi.ix_s, Vi.isiD, Vi.chain2_eq, Vi.chainK_b, Vi.iop_add, Vi.iop_sub, Vi.it_l, Vi.it_t, Vi.it_s, Vi.lentOk, Vi.outs_nil, Vi.outs_fz, Vi.outs_c, List.tail_cons, Vi.killE, Vi.noOwn, Vi.closed, Vi.closeds, Vi.closedD, Vi.closeds_ints, Vi.wipeE, Vi.resE, Vi.bd_nm, Vi.bd_tp, Vi.bdN, Vi.bdT, Vi.bdsN, Vi.bdNil, Vi.bdCons, Vi.Tg.js, Vi.partM, Vi.eq_int, Vi.eq_str, Vi.eq_bool, Vi.eq_ints], ?_⟩
      obtain ⟨y5, hi⟩ := in_near (p := p) hk hl (x5 := x5)
      have hp : p ∈ upF 1 (l.length + 1) := by rw [← List.nil_append (upF _ _), ← he]; simp
      have hp := mem_upF.mp hp
      have rr2 : rngD [.int ((k : Int) - (p : Int)), .int (k : Nat)] = some ((rgI ((k : Int) - p) k).map .int) := by
        rw [← rngL_eq]; refine rng_2 (by omega) (by omega) (by omega)
      have ml := mis_loc (l := l) (k := k) (p := p)
      generalize l.length = n at *
      generalize hW : ((rgI ((k : Int) - p) k).filter (misI l p)).length = W at hi ml
      by_cases q : W = 0
      · refine Or.inl ⟨ml.mp q, [some (.fz (tx l)), some (.fz (.int (k : Nat))), some (.fz (.int (n : Nat))), some (.fz (.int (p : Nat))), some (.fz (.int (W : Nat))), y5], ?_⟩
        subst q
        have hi' := hi
        rw [show (((0 : Nat) : Int)) = 0 from rfl] at hi' ⊢
        simp -implicitDefEqProofs [b__law_near_4, b__law_near_3, b__law_near_1, Vi.bind_ok, Vi.bind_bad, Vi.bind_ex, Vi.so_ok, Vi.sb_nx, Vi.sb_ret, Vi.sb_bad, Vi.d_fz, Vi.d_olI, Vi.d_ol, Vi.o_some, Vi.tst_b, Vi.tst_i, Vi.tst_l, Vi.tst_s, Vi.tst_n, Vi.oB_some, Vi.oP_some, Vi.oL_some, Vi.rdV_fz, Vi.rdV_ol, Vi.rdV2_some, Vi.mvV_ol, Vi.mvV_fz, Vi.rdVar_c, Vi.ev_var, Vi.ev_mv, Vi.ev_int, Vi.ev_bl, Vi.ev_non, Vi.ev_str, Vi.ev_gi, Vi.ev_gs, Vi.ev_bin, Vi.ev_neg, Vi.ev_cmp, Vi.evT_cmp, Vi.ev_chain, Vi.ev_one, Vi.andK_b, Vi.orK_b, Vi.notK_b, Vi.ev_and, Vi.ev_or, Vi.ev_not, Vi.isB_b, Vi.ev_ite, Vi.ev_tup, Vi.ev_lst, Vi.ev_ix, Vi.ev_slc, Vi.evP_no, Vi.evP_yes, Vi.ev_call, Vi.calK_some, Vi.calR_ok, Vi.evA_nil, Vi.evA_e, Vi.evA_o, Vi.args_nil, Vi.args_e, Vi.args_o, Vi.argK_s, Vi.asm_nil, Vi.asm_e, Vi.asm_o, Vi.asmK_s, Vi.lent_ol, Vi.lent_sc, Vi.lent_fz, Vi.put_nil, Vi.put_e, Vi.put_o, Vi.ev_blt, Vi.ev_isi, Vi.ev_lsc, Vi.lscK_s, Vi.cmpK_ok, Vi.ev_lc, Vi.evC_no, Vi.evC_yes, Vi.evI_e, Vi.evI_r1, Vi.evI_r2, Vi.evs_nil, Vi.evs_cons, Vi.evO_nil, Vi.evO_cons, Vi.olO_s, Vi.olOf_c, Vi.appK_s, Vi.appK2_s, Vi.ev_app, Vi.ev_mt, Vi.evT_mt, Vi.appNK_s, Vi.ev_appN, Vi.inOf_c, Vi.inK_s, Vi.inK2_s, Vi.mvixK_s, Vi.ev_mvix, Vi.ev_rev, Vi.ev_repC, Vi.evT_rev, Vi.evI_en, Vi.evI_rv, Vi.evI_rg, Vi.rgK_s, Vi.asgTK_s, Vi.ex_asgT, Vi.bwsK_nx, Vi.bwsK_ret, Vi.ex_bws, Vi.ex_rais, Vi.tryK_nx, Vi.tryK_ret, Vi.ex_try, Vi.so_ex, Vi.sb_ex, Vi.d_ex, Vi.runK_ex, Vi.calR_ex, Vi.keepE, Vi.cloF, Vi.closedR, Vi.bwK_ok, Vi.ev_bw, Vi.bwK'_ok, Vi.evT_bw, Vi.evT_chain, Vi.evT_one, Vi.evT_and, Vi.evT_or, Vi.evT_not, Vi.evT_var, Vi.evT_call, Vi.evT_isi, Vi.evT_blt, Vi.evT_ix, Vi.evT_bin, Vi.evT_bl, Vi.ex_pass, Vi.ex_asg, Vi.ex_expr, Vi.ex_ret, Vi.ex_retN, Vi.ex_if, Vi.ex_for, Vi.setK_s, Vi.setK2_s, Vi.setK3_s, Vi.ex_set, Vi.ex_aug, Vi.ex_augS, Vi.augM, Vi.augSM, Vi.exs_nil, Vi.exs_cons, Vi.run_b, Vi.runK_ret, Vi.runK_nx, Vi.frzE_nil, Vi.frz_cons, Vi.frzK_ol, Vi.frzK2_s, Vi.frzK_fz, Vi.frzK_no, Vi.frzK_olI, Vi.rdV_olI, Vi.mvV_olI, Vi.olO_olI, Vi.lent_olI, Vi.closed_olI, Vi.dOf_fz, Vi.dOf_olI, Vi.dOf_olI', Vi.dsOf_fz, Vi.dsOf_ints, Vi.dsOf_nil, Vi.dsOf_cons, Option.map_some, Vi.binD, Vi.add_int, Vi.sub_int, Vi.cmpD, Vi.lt_int, Vi.le_int, Vi.gt_int, Vi.ge_int, Vi.neg_int, Vi.bf_len_l, Vi.bf_len_t, Vi.bf_len_s, Vi.bf_abs, Vi.bf_int, Vi.bf_intb, Vi.bf_max2, Vi.bf_min2, Vi.bf_list_l, Vi.bf_list_t, Vi.bf_tup_l, Vi.bf_sum, Vi.ix_l, Vi.ix_t, Vi.ix_s, Vi.isiD, Vi.chain2_eq, Vi.chainK_b, Vi.iop_add, Vi.iop_sub, Vi.it_l, Vi.it_t, Vi.it_s, Vi.lentOk, Vi.outs_nil, Vi.outs_fz, Vi.outs_c, List.tail_cons, Vi.killE, Vi.noOwn, Vi.closed, Vi.closeds, Vi.closedD, Vi.closeds_ints, Vi.wipeE, Vi.resE, Vi.bd_nm, Vi.bd_tp, Vi.bdN, Vi.bdT, Vi.bdsN, Vi.bdNil, Vi.bdCons, Vi.Tg.js, Vi.partM, Vi.eq_int, Vi.eq_str, Vi.eq_bool, Vi.eq_ints, rr2, hi']
      · have q' : ¬ (W : Int) = 0 := by omega
        refine Or.inr ⟨Bool.eq_false_iff.mpr fun z => q (ml.mpr z), [some (.fz (tx l)), some (.fz (.int (k : Nat))), some (.fz (.int (n : Nat))), some (.fz (.int (p : Nat))), some (.fz (.int (W : Nat))), y5], ?_, _, _, _, rfl⟩
        generalize (W : Int) = W at hi q' ⊢
        simp -implicitDefEqProofs [b__law_near_4, b__law_near_3, b__law_near_1, Vi.bind_ok, Vi.bind_bad, Vi.bind_ex, Vi.so_ok, Vi.sb_nx, Vi.sb_ret, Vi.sb_bad, Vi.d_fz, Vi.d_olI, Vi.d_ol, Vi.o_some, Vi.tst_b, Vi.tst_i, Vi.tst_l, Vi.tst_s, Vi.tst_n, Vi.oB_some, Vi.oP_some, Vi.oL_some, Vi.rdV_fz, Vi.rdV_ol, Vi.rdV2_some, Vi.mvV_ol, Vi.mvV_fz, Vi.rdVar_c, Vi.ev_var, Vi.ev_mv, Vi.ev_int, Vi.ev_bl, Vi.ev_non, Vi.ev_str, Vi.ev_gi, Vi.ev_gs, Vi.ev_bin, Vi.ev_neg, Vi.ev_cmp, Vi.evT_cmp, Vi.ev_chain, Vi.ev_one, Vi.andK_b, Vi.orK_b, Vi.notK_b, Vi.ev_and, Vi.ev_or, Vi.ev_not, Vi.isB_b, Vi.ev_ite, Vi.ev_tup, Vi.ev_lst, Vi.ev_ix, Vi.ev_slc, Vi.evP_no, Vi.evP_yes, Vi.ev_call, Vi.calK_some, Vi.calR_ok, Vi.evA_nil, Vi.evA_e, Vi.evA_o, Vi.args_nil, Vi.args_e, Vi.args_o, Vi.argK_s, Vi.asm_nil, Vi.asm_e, Vi.asm_o, Vi.asmK_s, Vi.lent_ol, Vi.lent_sc, Vi.lent_fz, Vi.put_nil, Vi.put_e, Vi.put_o, Vi.ev_blt, Vi.ev_isi, Vi.ev_lsc, Vi.lscK_s, Vi.cmpK_ok, Vi.ev_lc, Vi.evC_no, Vi.evC_yes, Vi.evI_e, Vi.evI_r1, Vi.evI_r2, Vi.evs_nil, Vi.evs_cons, Vi.evO_nil, Vi.evO_cons, Vi.olO_s, Vi.olOf_c, Vi.appK_s, Vi.appK2_s, Vi.ev_app, Vi.ev_mt, Vi.evT_mt, Vi.appNK_s, Vi.ev_appN, Vi.inOf_c, Vi.inK_s, Vi.inK2_s, Vi.mvixK_s, Vi.ev_mvix, Vi.ev_rev, Vi.ev_repC, Vi.evT_rev, Vi.evI_en, Vi.evI_rv, Vi.evI_rg, Vi.rgK_s, Vi.asgTK_s, Vi.ex_asgT, Vi.bwsK_nx, Vi.bwsK_ret, Vi.ex_bws, Vi.ex_rais, Vi.tryK_nx, Vi.tryK_ret, Vi.ex_try, Vi.so_ex, Vi.sb_ex, Vi.d_ex, Vi.runK_ex, Vi.calR_ex, Vi.keepE, Vi.cloF, Vi.closedR, Vi.bwK_ok, Vi.ev_bw, Vi.bwK'_ok, Vi.evT_bw, Vi.evT_chain, Vi.evT_one, Vi.evT_and, Vi.evT_or, Vi.evT_not, Vi.evT_var, Vi.evT_call, Vi.evT_isi, Vi.evT_blt, Vi.evT_ix, Vi.evT_bin, Vi.evT_bl, Vi.ex_pass, Vi.ex_asg, Vi.ex_expr, Vi.ex_ret, Vi.ex_retN, Vi.ex_if, Vi.ex_for, Vi.setK_s, Vi.setK2_s, Vi.setK3_s, Vi.ex_set, Vi.ex_aug, Vi.ex_augS, Vi.augM, Vi.augSM, Vi.exs_nil, Vi.exs_cons, Vi.run_b, Vi.runK_ret, Vi.runK_nx, Vi.frzE_nil, Vi.frz_cons, Vi.frzK_ol, Vi.frzK2_s, Vi.frzK_fz, Vi.frzK_no, Vi.frzK_olI, Vi.rdV_olI, Vi.mvV_olI, Vi.olO_olI, Vi.lent_olI, Vi.closed_olI, Vi.dOf_fz, Vi.dOf_olI, Vi.dOf_olI', Vi.dsOf_fz, Vi.dsOf_ints, Vi.dsOf_nil, Vi.dsOf_cons, Option.map_some, Vi.binD, Vi.add_int, Vi.sub_int, Vi.cmpD, Vi.lt_int, Vi.le_int, Vi.gt_int, Vi.ge_int, Vi.neg_int, Vi.bf_len_l, Vi.bf_len_t, Vi.bf_len_s, Vi.bf_abs, Vi.bf_int, Vi.bf_intb, Vi.bf_max2, Vi.bf_min2, Vi.bf_list_l, Vi.bf_list_t, Vi.bf_tup_l, Vi.bf_sum, Vi.ix_l, Vi.ix_t, Vi.ix_s, Vi.isiD, Vi.chain2_eq, Vi.chainK_b, Vi.iop_add, Vi.iop_sub, Vi.it_l, Vi.it_t, Vi.it_s, Vi.lentOk, Vi.outs_nil, Vi.outs_fz, Vi.outs_c, List.tail_cons, Vi.killE, Vi.noOwn, Vi.closed, Vi.closeds, Vi.closedD, Vi.closeds_ints, Vi.wipeE, Vi.resE, Vi.bd_nm, Vi.bd_tp, Vi.bdN, Vi.bdT, Vi.bdsN, Vi.bdNil, Vi.bdCons, Vi.Tg.js, Vi.partM, Vi.eq_int, Vi.eq_str, Vi.eq_bool, Vi.eq_ints, rr2, hi, q']) with ⟨h, _⟩ | ⟨x, h, e, he⟩
  · rw [(near_spec h1 k).1] at h; cases h
  · rw [(near_spec h1 k).1] at h
    cases h
    simp -implicitDefEqProofs [den__law_near, bod__law_near, b__law_near_6, b__law_near_5, b__law_near_0, Vi.bind_ok, Vi.bind_bad, Vi.bind_ex, Vi.so_ok, Vi.sb_nx, Vi.sb_ret, Vi.sb_bad, Vi.d_fz, Vi.d_olI, Vi.d_ol, Vi.o_some, Vi.tst_b, Vi.tst_i, Vi.tst_l, Vi.tst_s, Vi.tst_n, Vi.oB_some, Vi.oP_some, Vi.oL_some, Vi.rdV_fz, Vi.rdV_ol, Vi.rdV2_some, Vi.mvV_ol, Vi.mvV_fz, Vi.rdVar_c, Vi.ev_var, Vi.ev_mv, Vi.ev_int, Vi.ev_bl, Vi.ev_non, Vi.ev_str, Vi.ev_gi, Vi.ev_gs, Vi.ev_bin, Vi.ev_neg, Vi.ev_cmp, Vi.evT_cmp, Vi.ev_chain, Vi.ev_one, Vi.andK_b, Vi.orK_b, Vi.notK_b, Vi.ev_and, Vi.ev_or, Vi.ev_not, Vi.isB_b, Vi.ev_ite, Vi.ev_tup, Vi.ev_lst, Vi.ev_ix, Vi.ev_slc, Vi.evP_no, Vi.evP_yes, Vi.ev_call, Vi.calK_some, Vi.calR_ok, Vi.evA_nil, Vi.evA_e, Vi.evA_o, Vi.args_nil, Vi.args_e, Vi.args_o, Vi.argK_s, Vi.asm_nil, Vi.asm_e, Vi.asm_o, Vi.asmK_s, Vi.lent_ol, Vi.lent_sc, Vi.lent_fz, Vi.put_nil, Vi.put_e, Vi.put_o, Vi.ev_blt, Vi.ev_isi, Vi.ev_lsc, Vi.lscK_s, Vi.cmpK_ok, Vi.ev_lc, Vi.evC_no, Vi.evC_yes, Vi.evI_e, Vi.evI_r1, Vi.evI_r2, Vi.evs_nil, Vi.evs_cons, Vi.evO_nil, Vi.evO_cons, Vi.olO_s, Vi.olOf_c, Vi.appK_s, Vi.appK2_s, Vi.ev_app, Vi.ev_mt, Vi.evT_mt, Vi.appNK_s, Vi.ev_appN, Vi.inOf_c, Vi.inK_s, Vi.inK2_s, Vi.mvixK_s, Vi.ev_mvix, Vi.ev_rev, Vi.ev_repC, Vi.evT_rev, Vi.evI_en, Vi.evI_rv, Vi.evI_rg, Vi.rgK_s, Vi.asgTK_s, Vi.ex_asgT, Vi.bwsK_nx, Vi.bwsK_ret, Vi.ex_bws, Vi.ex_rais, Vi.tryK_nx, Vi.tryK_ret, Vi.ex_try, Vi.so_ex, Vi.sb_ex, Vi.d_ex, Vi.runK_ex, Vi.calR_ex, Vi.keepE, Vi.cloF, Vi.closedR, Vi.bwK_ok, Vi.ev_bw, Vi.bwK'_ok, Vi.evT_bw, Vi.evT_chain, Vi.evT_one, Vi.evT_and, Vi.evT_or, Vi.evT_not, Vi.evT_var, Vi.evT_call, Vi.evT_isi, Vi.evT_blt, Vi.evT_ix, Vi.evT_bin, Vi.evT_bl, Vi.ex_pass, Vi.ex_asg, Vi.ex_expr, Vi.ex_ret, Vi.ex_retN, Vi.ex_if, Vi.ex_for, Vi.setK_s, Vi.setK2_s, Vi.setK3_s, Vi.ex_set, Vi.ex_aug, Vi.ex_augS, Vi.augM, Vi.augSM, Vi.exs_nil, Vi.exs_cons, Vi.run_b, Vi.runK_ret, Vi.runK_nx, Vi.frzE_nil, Vi.frz_cons, Vi.frzK_ol, Vi.frzK2_s, Vi.frzK_fz, Vi.frzK_no, Vi.frzK_olI, Vi.rdV_olI, Vi.mvV_olI, Vi.olO_olI, Vi.lent_olI, Vi.closed_olI, Vi.dOf_fz, Vi.dOf_olI, Vi.dOf_olI', Vi.dsOf_fz, Vi.dsOf_ints, Vi.dsOf_nil, Vi.dsOf_cons, Option.map_some, Vi.binD, Vi.add_int, Vi.sub_int, Vi.cmpD, Vi.lt_int, Vi.le_int, Vi.gt_int, Vi.ge_int, Vi.neg_int, Vi.bf_len_l, Vi.bf_len_t, Vi.bf_len_s, Vi.bf_abs, Vi.bf_int, Vi.bf_intb, Vi.bf_max2, Vi.bf_min2, Vi.bf_list_l, Vi.bf_list_t, Vi.bf_tup_l, Vi.bf_sum, Vi.ix_l, Vi.ix_t, Vi.ix_s, Vi.isiD, Vi.chain2_eq, Vi.chainK_b, Vi.iop_add, Vi.iop_sub, Vi.it_l, Vi.it_t, Vi.it_s, Vi.lentOk, Vi.outs_nil, Vi.outs_fz, Vi.outs_c, List.tail_cons, Vi.killE, Vi.noOwn, Vi.closed, Vi.closeds, Vi.closedD, Vi.closeds_ints, Vi.wipeE, Vi.resE, Vi.bd_nm, Vi.bd_tp, Vi.bdN, Vi.bdT, Vi.bdsN, Vi.bdNil, Vi.bdCons, Vi.Tg.js, Vi.partM, Vi.eq_int, Vi.eq_str, Vi.eq_bool, Vi.eq_ints, tS_len, rr, he]
theorem slc_neg {l : List Nat} {p : Nat} (h1 : 1 ≤ p) (h2 : p ≤ l.length) : slcD (tx l) none (some (-(p : Int))) = some (.fz (tx (l.take (l.length - p)))) := by
  show some (OV.fz (.str ⟨(cutL l none (some (-(p : Int)))).toArray⟩)) = _
  have e : cutL l none (some (-(p : Int))) = l.take (l.length - p) := by
    unfold cutL
    have : HT.sIx l.length l.length (some (-(p : Int))) = l.length - p := by
      unfold HT.sIx
      simp only []
      rw [if_pos (by omega)]
      omega
    rw [HT.sIx_none, this, List.drop_zero, Nat.sub_zero]
  rw [e]
theorem upF_last {n : Nat} (h : 1 ≤ n) : upF 1 (n + 1) = upF 1 n ++ [n] := by
  unfold upF
  rw [show n + 1 - 1 = (n - 1) + 1 by omega, List.range_succ, List.map_append]
  simp only [List.map_cons, List.map_nil]
  rw [show 1 + (n - 1) = n by omega]
theorem ok_lleast {l : List Nat} (hl : l.length ≤ 1000) (h1 : 1 ≤ l.length) : den__law_least_period [.fz (tx l)] = .ok (.fz (.int (leastV l : Nat))) [none] := by
  have rr : rngD [.int 1, .int (l.length : Int)] = some ((upF 1 l.length).map fun i => .int (i : Nat)) := rng_upF (m := 1) (by omega) (by omega)
  have ls := (least_spec h1).1
  rw [upF_last h1, List.find?_append] at ls
  rcases forL_stop (bd := bdG (.nm 1)) (mb := exs rho__law_least_period [] b__law_least_period_1) (g := fun i : Nat => .int (i : Nat)) (fun _ env => ∃ x1 : Option OV, env = [some (.fz (tx l)), x1]) (perB l) (fun x R => ∃ e, R = .ret (.fz (.int (x : Nat))) e) (fun x R h e => by obtain ⟨e', rfl⟩ := h; exact fun z => nomatch z) (upF 1 l.length) [] [some (.fz (tx l)), none] ⟨none, rfl⟩
    (by
      rintro d p r env he ⟨x1, rfl⟩
      have hp : p ∈ upF 1 l.length := by rw [← List.nil_append (upF _ _), ← he]; simp
      have hp := mem_upF.mp hp
      refine ⟨[some (.fz (tx l)), some (.fz (.int (p : Nat)))], by simp -implicitDefEqProofs [Vi.bind_ok, Vi.bind_bad, Vi.bind_ex, Vi.so_ok, Vi.sb_nx, Vi.sb_ret, Vi.sb_bad, Vi.d_fz, Vi.d_olI, Vi.d_ol, Vi.o_some, Vi.tst_b, Vi.tst_i, Vi.tst_l, Vi.tst_s, Vi.tst_n, Vi.oB_some, Vi.oP_some, Vi.oL_some, Vi.rdV_fz, Vi.rdV_ol, Vi.rdV2_some, Vi.mvV_ol, Vi.mvV_fz, Vi.rdVar_c, Vi.ev_var, Vi.ev_mv, Vi.ev_int, Vi.ev_bl, Vi.ev_non, Vi.ev_str, Vi.ev_gi, Vi.ev_gs, Vi.ev_bin, Vi.ev_neg, Vi.ev_cmp, Vi.evT_cmp, Vi.ev_chain, Vi.ev_one, Vi.andK_b, Vi.orK_b, Vi.notK_b, Vi.ev_and, Vi.ev_or, Vi.ev_not, Vi.isB_b, Vi.ev_ite, Vi.ev_tup, Vi.ev_lst, Vi.ev_ix, Vi.ev_slc, Vi.evP_no, Vi.evP_yes, Vi.ev_call, Vi.calK_some, Vi.calR_ok, Vi.evA_nil, Vi.evA_e, Vi.evA_o, Vi.args_nil, Vi.args_e, Vi.args_o, Vi.argK_s, Vi.asm_nil, Vi.asm_e, Vi.asm_o, Vi.asmK_s, Vi.lent_ol, Vi.lent_sc, Vi.lent_fz, Vi.put_nil, Vi.put_e, Vi.put_o, Vi.ev_blt, Vi.ev_isi, Vi.ev_lsc, Vi.lscK_s, Vi.cmpK_ok, Vi.ev_lc, Vi.evC_no, Vi.evC_yes, Vi.evI_e, Vi.evI_r1, Vi.evI_r2, Vi.evs_nil, Vi.evs_cons, Vi.evO_nil, Vi.evO_cons, Vi.olO_s, Vi.olOf_c, Vi.appK_s, Vi.appK2_s, Vi.ev_app, Vi.ev_mt, Vi.evT_mt, Vi.appNK_s, Vi.ev_appN, Vi.inOf_c, Vi.inK_s, Vi.inK2_s, Vi.mvixK_s, Vi.ev_mvix, Vi.ev_rev, Vi.ev_repC, Vi.evT_rev, Vi.evI_en, Vi.evI_rv, Vi.evI_rg, Vi.rgK_s, Vi.asgTK_s, Vi.ex_asgT, Vi.bwsK_nx, Vi.bwsK_ret, Vi.ex_bws, Vi.ex_rais, Vi.tryK_nx, Vi.tryK_ret, Vi.ex_try, Vi.so_ex, Vi.sb_ex, Vi.d_ex, Vi.runK_ex, Vi.calR_ex, Vi.keepE, Vi.cloF, Vi.closedR, Vi.bwK_ok, Vi.ev_bw, Vi.bwK'_ok, Vi.evT_bw, Vi.evT_chain, Vi.evT_one, Vi.evT_and, Vi.evT_or, Vi.evT_not, Vi.evT_var, Vi.evT_call, Vi.evT_isi, Vi.evT_blt, Vi.evT_ix, Vi.evT_bin, Vi.evT_bl, Vi.ex_pass, Vi.ex_asg, Vi.ex_expr, Vi.ex_ret, Vi.ex_retN, Vi.ex_if, Vi.ex_for, Vi.setK_s, Vi.setK2_s, Vi.setK3_s, Vi.ex_set, Vi.ex_aug, Vi.ex_augS, Vi.augM, Vi.augSM, Vi.exs_nil, Vi.exs_cons, Vi.run_b, Vi.runK_ret, Vi.runK_nx, Vi.frzE_nil, Vi.frz_cons, Vi.frzK_ol, Vi.frzK2_s, Vi.frzK_fz, Vi.frzK_no, Vi.frzK_olI, Vi.rdV_olI, Vi.mvV_olI, Vi.olO_olI, Vi.lent_olI, Vi.closed_olI, Vi.dOf_fz, Vi.dOf_olI, Vi.dOf_olI', Vi.dsOf_fz, Vi.dsOf_ints, Vi.dsOf_nil, Vi.dsOf_cons, Option.map_some, Vi.binD, Vi.add_int, Vi.sub_int, Vi.cmpD, Vi.lt_int, Vi.le_int, Vi.gt_int, Vi.ge_int, Vi.neg_int, Vi.bf_len_l, Vi.bf_len_t, Vi.bf_len_s, Vi.bf_abs, Vi.bf_int, Vi.bf_intb, Vi.bf_max2, Vi.bf_min2, Vi.bf_list_l, Vi.bf_list_t, Vi.bf_tup_l, Vi.bf_sum, Vi.ix_l, Vi.ix_t, Vi.ix_s, Vi.isiD, Vi.chain2_eq, Vi.chainK_b, Vi.iop_add, Vi.iop_sub, Vi.it_l, Vi.it_t, Vi.it_s, Vi.lentOk, Vi.outs_nil, Vi.outs_fz, Vi.outs_c, List.tail_cons, Vi.killE, Vi.noOwn, Vi.closed, Vi.closeds, Vi.closedD, Vi.closeds_ints, Vi.wipeE, Vi.resE, Vi.bd_nm, Vi.bd_tp, Vi.bdN, Vi.bdT, Vi.bdsN, Vi.bdNil, Vi.bdCons, Vi.Tg.js, Vi.partM, Vi.eq_int, Vi.eq_str, Vi.eq_bool, Vi.eq_ints], ?_⟩
      have a1 := slc_d (l := l) (m := p)
      have a2 := slc_neg (l := l) (p := p) hp.1 (by omega)
      have a3 := eq_tx (a := l.drop p) (b := l.take (l.length - p))
      unfold perB
      generalize l.drop p = A at a1 a3 ⊢
      generalize l.take (l.length - p) = B at a2 a3 ⊢
      by_cases q : A = B
      · rw [show decide (A = B) = true from decide_eq_true q] at a3
        refine Or.inl ⟨decide_eq_true q, [some (.fz (tx l)), some (.fz (.int (p : Nat)))], ?_⟩
        simp -implicitDefEqProofs [b__law_least_period_1, Vi.bind_ok, Vi.bind_bad, Vi.bind_ex, Vi.so_ok, Vi.sb_nx, Vi.sb_ret, Vi.sb_bad, Vi.d_fz, Vi.d_olI, Vi.d_ol, Vi.o_some, Vi.tst_b, Vi.tst_i, Vi.tst_l, Vi.tst_s, Vi.tst_n, Vi.oB_some, Vi.oP_some, Vi.oL_some, Vi.rdV_fz, Vi.rdV_ol, Vi.rdV2_some, Vi.mvV_ol, Vi.mvV_fz, Vi.rdVar_c, Vi.ev_var, Vi.ev_mv, Vi.ev_int, Vi.ev_bl, Vi.ev_non, Vi.ev_str, Vi.ev_gi, Vi.ev_gs, Vi.ev_bin, Vi.ev_neg, Vi.ev_cmp, Vi.evT_cmp, Vi.ev_chain, Vi.ev_one, Vi.andK_b, Vi.orK_b, Vi.notK_b, Vi.ev_and, Vi.ev_or, Vi.ev_not, Vi.isB_b, Vi.ev_ite, Vi.ev_tup, Vi.ev_lst, Vi.ev_ix, Vi.ev_slc, Vi.evP_no, Vi.evP_yes, Vi.ev_call, Vi.calK_some, Vi.calR_ok, Vi.evA_nil, Vi.evA_e, Vi.evA_o, Vi.args_nil, Vi.args_e, Vi.args_o, Vi.argK_s, Vi.asm_nil, Vi.asm_e, Vi.asm_o, Vi.asmK_s, Vi.lent_ol, Vi.lent_sc, Vi.lent_fz, Vi.put_nil, Vi.put_e, Vi.put_o, Vi.ev_blt, Vi.ev_isi, Vi.ev_lsc, Vi.lscK_s, Vi.cmpK_ok, Vi.ev_lc, Vi.evC_no, Vi.evC_yes, Vi.evI_e, Vi.evI_r1, Vi.evI_r2, Vi.evs_nil, Vi.evs_cons, Vi.evO_nil, Vi.evO_cons, Vi.olO_s, Vi.olOf_c, Vi.appK_s, Vi.appK2_s, Vi.ev_app, Vi.ev_mt, Vi.evT_mt, Vi.appNK_s, Vi.ev_appN, Vi.inOf_c, Vi.inK_s, Vi.inK2_s, Vi.mvixK_s, Vi.ev_mvix, Vi.ev_rev, Vi.ev_repC, Vi.evT_rev, Vi.evI_en, Vi.evI_rv, Vi.evI_rg, Vi.rgK_s, Vi.asgTK_s, Vi.ex_asgT, Vi.bwsK_nx, Vi.bwsK_ret, Vi.ex_bws, Vi.ex_rais, Vi.tryK_nx, Vi.tryK_ret, Vi.ex_try, Vi.so_ex, Vi.sb_ex, Vi.d_ex, Vi.runK_ex, Vi.calR_ex, Vi.keepE, Vi.cloF, Vi.closedR, Vi.bwK_ok, Vi.ev_bw, Vi.bwK'_ok, Vi.evT_bw, Vi.evT_chain, Vi.evT_one, Vi.evT_and, Vi.evT_or, Vi.evT_not, Vi.evT_var, Vi.evT_call, Vi.evT_isi, Vi.evT_blt, Vi.evT_ix, Vi.evT_bin, Vi.evT_bl, Vi.ex_pass, Vi.ex_asg, Vi.ex_expr, Vi.ex_ret, Vi.ex_retN, Vi.ex_if, Vi.ex_for, Vi.setK_s, Vi.setK2_s, Vi.setK3_s, Vi.ex_set, Vi.ex_aug, Vi.ex_augS, Vi.augM, Vi.augSM, Vi.exs_nil, Vi.exs_cons, Vi.run_b, Vi.runK_ret, Vi.runK_nx, Vi.frzE_nil, Vi.frz_cons, Vi.frzK_ol, Vi.frzK2_s, Vi.frzK_fz, Vi.frzK_no, Vi.frzK_olI, Vi.rdV_olI, Vi.mvV_olI, Vi.olO_olI, Vi.lent_olI, Vi.closed_olI, Vi.dOf_fz, Vi.dOf_olI, Vi.dOf_olI', Vi.dsOf_fz, Vi.dsOf_ints, Vi.dsOf_nil, Vi.dsOf_cons, Option.map_some, Vi.binD, Vi.add_int, Vi.sub_int, Vi.cmpD, Vi.lt_int, Vi.le_int, Vi.gt_int, Vi.ge_int, Vi.neg_int, Vi.bf_len_l, Vi.bf_len_t, Vi.bf_len_s, Vi.bf_abs, Vi.bf_int, Vi.bf_intb, Vi.bf_max2, Vi.bf_min2, Vi.bf_list_l, Vi.bf_list_t, Vi.bf_tup_l, Vi.bf_sum, Vi.ix_l, Vi.ix_t, Vi.ix_s, Vi.isiD, Vi.chain2_eq, Vi.chainK_b, Vi.iop_add, Vi.iop_sub, Vi.it_l, Vi.it_t, Vi.it_s, Vi.lentOk, Vi.outs_nil, Vi.outs_fz, Vi.outs_c, List.tail_cons, Vi.killE, Vi.noOwn, Vi.closed, Vi.closeds, Vi.closedD, Vi.closeds_ints, Vi.wipeE, Vi.resE, Vi.bd_nm, Vi.bd_tp, Vi.bdN, Vi.bdT, Vi.bdsN, Vi.bdNil, Vi.bdCons, Vi.Tg.js, Vi.partM, Vi.eq_int, Vi.eq_str, Vi.eq_bool, Vi.eq_ints, a1, a2, a3]
      · rw [show decide (A = B) = false from decide_eq_false q] at a3
        refine Or.inr ⟨decide_eq_false q, [some (.fz (tx l)), some (.fz (.int (p : Nat)))], ?_, _, rfl⟩
        simp -implicitDefEqProofs [b__law_least_period_1, Vi.bind_ok, Vi.bind_bad, Vi.bind_ex, Vi.so_ok, Vi.sb_nx, Vi.sb_ret, Vi.sb_bad, Vi.d_fz, Vi.d_olI, Vi.d_ol, Vi.o_some, Vi.tst_b, Vi.tst_i, Vi.tst_l, Vi.tst_s, Vi.tst_n, Vi.oB_some, Vi.oP_some, Vi.oL_some, Vi.rdV_fz, Vi.rdV_ol, Vi.rdV2_some, Vi.mvV_ol, Vi.mvV_fz, Vi.rdVar_c, Vi.ev_var, Vi.ev_mv, Vi.ev_int, Vi.ev_bl, Vi.ev_non, Vi.ev_str, Vi.ev_gi, Vi.ev_gs, Vi.ev_bin, Vi.ev_neg, Vi.ev_cmp, Vi.evT_cmp, Vi.ev_chain, Vi.ev_one, Vi.andK_b, Vi.orK_b, Vi.notK_b, Vi.ev_and, Vi.ev_or, Vi.ev_not, Vi.isB_b, Vi.ev_ite, Vi.ev_tup, Vi.ev_lst, Vi.ev_ix, Vi.ev_slc, Vi.evP_no, Vi.evP_yes, Vi.ev_call, Vi.calK_some, Vi.calR_ok, Vi.evA_nil, Vi.evA_e, Vi.evA_o, Vi.args_nil, Vi.args_e, Vi.args_o, Vi.argK_s, Vi.asm_nil, Vi.asm_e, Vi.asm_o, Vi.asmK_s, Vi.lent_ol, Vi.lent_sc, Vi.lent_fz, Vi.put_nil, Vi.put_e, Vi.put_o, Vi.ev_blt, Vi.ev_isi, Vi.ev_lsc, Vi.lscK_s, Vi.cmpK_ok, Vi.ev_lc, Vi.evC_no, Vi.evC_yes, Vi.evI_e, Vi.evI_r1, Vi.evI_r2, Vi.evs_nil, Vi.evs_cons, Vi.evO_nil, Vi.evO_cons, Vi.olO_s, Vi.olOf_c, Vi.appK_s, Vi.appK2_s, Vi.ev_app, Vi.ev_mt, Vi.evT_mt, Vi.appNK_s, Vi.ev_appN, Vi.inOf_c, Vi.inK_s, Vi.inK2_s, Vi.mvixK_s, Vi.ev_mvix, Vi.ev_rev, Vi.ev_repC, Vi.evT_rev, Vi.evI_en, Vi.evI_rv, Vi.evI_rg, Vi.rgK_s, Vi.asgTK_s, Vi.ex_asgT, Vi.bwsK_nx, Vi.bwsK_ret, Vi.ex_bws, Vi.ex_rais, Vi.tryK_nx, Vi.tryK_ret, Vi.ex_try, Vi.so_ex, Vi.sb_ex, Vi.d_ex, Vi.runK_ex, Vi.calR_ex, Vi.keepE, Vi.cloF, Vi.closedR, Vi.bwK_ok, Vi.ev_bw, Vi.bwK'_ok, Vi.evT_bw, Vi.evT_chain, Vi.evT_one, Vi.evT_and, Vi.evT_or, Vi.evT_not, Vi.evT_var, Vi.evT_call, Vi.evT_isi, Vi.evT_blt, Vi.evT_ix, Vi.evT_bin, Vi.evT_bl, Vi.ex_pass, Vi.ex_asg, Vi.ex_expr, Vi.ex_ret, Vi.ex_retN, Vi.ex_if, Vi.ex_for, Vi.setK_s, Vi.setK2_s, Vi.setK3_s, Vi.ex_set, Vi.ex_aug, Vi.ex_augS, Vi.augM, Vi.augSM, Vi.exs_nil, Vi.exs_cons, Vi.run_b, Vi.runK_ret, Vi.runK_nx, Vi.frzE_nil, Vi.frz_cons, Vi.frzK_ol, Vi.frzK2_s, Vi.frzK_fz, Vi.frzK_no, Vi.frzK_olI, Vi.rdV_olI, Vi.mvV_olI, Vi.olO_olI, Vi.lent_olI, Vi.closed_olI, Vi.dOf_fz, Vi.dOf_olI, Vi.dOf_olI', Vi.dsOf_fz, Vi.dsOf_ints, Vi.dsOf_nil, Vi.dsOf_cons, Option.map_some, Vi.binD, Vi.add_int, Vi.sub_int, Vi.cmpD, Vi.lt_int, Vi.le_int, Vi.gt_int, Vi.ge_int, Vi.neg_int, Vi.bf_len_l, Vi.bf_len_t, Vi.bf_len_s, Vi.bf_abs, Vi.bf_int, Vi.bf_intb, Vi.bf_max2, Vi.bf_min2, Vi.bf_list_l, Vi.bf_list_t, Vi.bf_tup_l, Vi.bf_sum, Vi.ix_l, Vi.ix_t, Vi.ix_s, Vi.isiD, Vi.chain2_eq, Vi.chainK_b, Vi.iop_add, Vi.iop_sub, Vi.it_l, Vi.it_t, Vi.it_s, Vi.lentOk, Vi.outs_nil, Vi.outs_fz, Vi.outs_c, List.tail_cons, Vi.killE, Vi.noOwn, Vi.closed, Vi.closeds, Vi.closedD, Vi.closeds_ints, Vi.wipeE, Vi.resE, Vi.bd_nm, Vi.bd_tp, Vi.bdN, Vi.bdT, Vi.bdsN, Vi.bdNil, Vi.bdCons, Vi.Tg.js, Vi.partM, Vi.eq_int, Vi.eq_str, Vi.eq_bool, Vi.eq_ints, a1, a2, a3]) with ⟨h, env, he, x1, rfl⟩ | ⟨x, h, e, he⟩
  · rw [h] at ls
    have e : leastV l = l.length := by
      have : perB l l.length = true := by unfold perB; simp
      simp [this] at ls; exact ls.symm
    rw [e]
    simp -implicitDefEqProofs [den__law_least_period, bod__law_least_period, b__law_least_period_2, b__law_least_period_0, Vi.bind_ok, Vi.bind_bad, Vi.bind_ex, Vi.so_ok, Vi.sb_nx, Vi.sb_ret, Vi.sb_bad, Vi.d_fz, Vi.d_olI, Vi.d_ol, Vi.o_some, Vi.tst_b, Vi.tst_i, Vi.tst_l, Vi.tst_s, Vi.tst_n, Vi.oB_some, Vi.oP_some, Vi.oL_some, Vi.rdV_fz, Vi.rdV_ol, Vi.rdV2_some, Vi.mvV_ol, Vi.mvV_fz, Vi.rdVar_c, Vi.ev_var, Vi.ev_mv, Vi.ev_int, Vi.ev_bl, Vi.ev_non, Vi.ev_str, Vi.ev_gi, Vi.ev_gs, Vi.ev_bin, Vi.ev_neg, Vi.ev_cmp, Vi.evT_cmp, Vi.ev_chain, Vi.ev_one, Vi.andK_b, Vi.orK_b, Vi.notK_b, Vi.ev_and, Vi.ev_or, Vi.ev_not, Vi.isB_b, Vi.ev_ite, Vi.ev_tup, Vi.ev_lst, Vi.ev_ix, Vi.ev_slc, Vi.evP_no, Vi.evP_yes, Vi.ev_call, Vi.calK_some, Vi.calR_ok, Vi.evA_nil, Vi.evA_e, Vi.evA_o, Vi.args_nil, Vi.args_e, Vi.args_o, Vi.argK_s, Vi.asm_nil, Vi.asm_e, Vi.asm_o, Vi.asmK_s, Vi.lent_ol, Vi.lent_sc, Vi.lent_fz, Vi.put_nil, Vi.put_e, Vi.put_o, Vi.ev_blt, Vi.ev_isi, Vi.ev_lsc, Vi.lscK_s, Vi.cmpK_ok, Vi.ev_lc, Vi.evC_no, Vi.evC_yes, Vi.evI_e, Vi.evI_r1, Vi.evI_r2, Vi.evs_nil, Vi.evs_cons, Vi.evO_nil, Vi.evO_cons, Vi.olO_s, Vi.olOf_c, Vi.appK_s, Vi.appK2_s, Vi.ev_app, Vi.ev_mt, Vi.evT_mt, Vi.appNK_s, Vi.ev_appN, Vi.inOf_c, Vi.inK_s, Vi.inK2_s, Vi.mvixK_s, Vi.ev_mvix, Vi.ev_rev, Vi.ev_repC, Vi.evT_rev, Vi.evI_en, Vi.evI_rv, Vi.evI_rg, Vi.rgK_s, Vi.asgTK_s, Vi.ex_asgT, Vi.bwsK_nx, Vi.bwsK_ret, Vi.ex_bws, Vi.ex_rais, Vi.tryK_nx, Vi.tryK_ret, Vi.ex_try, Vi.so_ex, Vi.sb_ex, Vi.d_ex, Vi.runK_ex, Vi.calR_ex, Vi.keepE, Vi.cloF, Vi.closedR, Vi.bwK_ok, Vi.ev_bw, Vi.bwK'_ok, Vi.evT_bw, Vi.evT_chain, Vi.evT_one, Vi.evT_and, Vi.evT_or, Vi.evT_not, Vi.evT_var, Vi.evT_call, Vi.evT_isi, Vi.evT_blt, Vi.evT_ix, Vi.evT_bin, Vi.evT_bl, Vi.ex_pass, Vi.ex_asg, Vi.ex_expr, Vi.ex_ret, Vi.ex_retN, Vi.ex_if, Vi.ex_for, Vi.setK_s, Vi.setK2_s, Vi.setK3_s, Vi.ex_set, Vi.ex_aug, Vi.ex_augS, Vi.augM, Vi.augSM, Vi.exs_nil, Vi.exs_cons, Vi.run_b, Vi.runK_ret, Vi.runK_nx, Vi.frzE_nil, Vi.frz_cons, Vi.frzK_ol, Vi.frzK2_s, Vi.frzK_fz, Vi.frzK_no, Vi.frzK_olI, Vi.rdV_olI, Vi.mvV_olI, Vi.olO_olI, Vi.lent_olI, Vi.closed_olI, Vi.dOf_fz, Vi.dOf_olI, Vi.dOf_olI', Vi.dsOf_fz, Vi.dsOf_ints, Vi.dsOf_nil, Vi.dsOf_cons, Option.map_some, Vi.binD, Vi.add_int, Vi.sub_int, Vi.cmpD, Vi.lt_int, Vi.le_int, Vi.gt_int, Vi.ge_int, Vi.neg_int, Vi.bf_len_l, Vi.bf_len_t, Vi.bf_len_s, Vi.bf_abs, Vi.bf_int, Vi.bf_intb, Vi.bf_max2, Vi.bf_min2, Vi.bf_list_l, Vi.bf_list_t, Vi.bf_tup_l, Vi.bf_sum, Vi.ix_l, Vi.ix_t, Vi.ix_s, Vi.isiD, Vi.chain2_eq, Vi.chainK_b, Vi.iop_add, Vi.iop_sub, Vi.it_l, Vi.it_t, Vi.it_s, Vi.lentOk, Vi.outs_nil, Vi.outs_fz, Vi.outs_c, List.tail_cons, Vi.killE, Vi.noOwn, Vi.closed, Vi.closeds, Vi.closedD, Vi.closeds_ints, Vi.wipeE, Vi.resE, Vi.bd_nm, Vi.bd_tp, Vi.bdN, Vi.bdT, Vi.bdsN, Vi.bdNil, Vi.bdCons, Vi.Tg.js, Vi.partM, Vi.eq_int, Vi.eq_str, Vi.eq_bool, Vi.eq_ints, tS_len, rr, he]
  · rw [h] at ls
    have e : leastV l = x := by simpa using ls.symm
    rw [e]
    simp -implicitDefEqProofs [den__law_least_period, bod__law_least_period, b__law_least_period_2, b__law_least_period_0, Vi.bind_ok, Vi.bind_bad, Vi.bind_ex, Vi.so_ok, Vi.sb_nx, Vi.sb_ret, Vi.sb_bad, Vi.d_fz, Vi.d_olI, Vi.d_ol, Vi.o_some, Vi.tst_b, Vi.tst_i, Vi.tst_l, Vi.tst_s, Vi.tst_n, Vi.oB_some, Vi.oP_some, Vi.oL_some, Vi.rdV_fz, Vi.rdV_ol, Vi.rdV2_some, Vi.mvV_ol, Vi.mvV_fz, Vi.rdVar_c, Vi.ev_var, Vi.ev_mv, Vi.ev_int, Vi.ev_bl, Vi.ev_non, Vi.ev_str, Vi.ev_gi, Vi.ev_gs, Vi.ev_bin, Vi.ev_neg, Vi.ev_cmp, Vi.evT_cmp, Vi.ev_chain, Vi.ev_one, Vi.andK_b, Vi.orK_b, Vi.notK_b, Vi.ev_and, Vi.ev_or, Vi.ev_not, Vi.isB_b, Vi.ev_ite, Vi.ev_tup, Vi.ev_lst, Vi.ev_ix, Vi.ev_slc, Vi.evP_no, Vi.evP_yes, Vi.ev_call, Vi.calK_some, Vi.calR_ok, Vi.evA_nil, Vi.evA_e, Vi.evA_o, Vi.args_nil, Vi.args_e, Vi.args_o, Vi.argK_s, Vi.asm_nil, Vi.asm_e, Vi.asm_o, Vi.asmK_s, Vi.lent_ol, Vi.lent_sc, Vi.lent_fz, Vi.put_nil, Vi.put_e, Vi.put_o, Vi.ev_blt, Vi.ev_isi, Vi.ev_lsc, Vi.lscK_s, Vi.cmpK_ok, Vi.ev_lc, Vi.evC_no, Vi.evC_yes, Vi.evI_e, Vi.evI_r1, Vi.evI_r2, Vi.evs_nil, Vi.evs_cons, Vi.evO_nil, Vi.evO_cons, Vi.olO_s, Vi.olOf_c, Vi.appK_s, Vi.appK2_s, Vi.ev_app, Vi.ev_mt, Vi.evT_mt, Vi.appNK_s, Vi.ev_appN, Vi.inOf_c, Vi.inK_s, Vi.inK2_s, Vi.mvixK_s, Vi.ev_mvix, Vi.ev_rev, Vi.ev_repC, Vi.evT_rev, Vi.evI_en, Vi.evI_rv, Vi.evI_rg, Vi.rgK_s, Vi.asgTK_s, Vi.ex_asgT, Vi.bwsK_nx, Vi.bwsK_ret, Vi.ex_bws, Vi.ex_rais, Vi.tryK_nx, Vi.tryK_ret, Vi.ex_try, Vi.so_ex, Vi.sb_ex, Vi.d_ex, Vi.runK_ex, Vi.calR_ex, Vi.keepE, Vi.cloF, Vi.closedR, Vi.bwK_ok, Vi.ev_bw, Vi.bwK'_ok, Vi.evT_bw, Vi.evT_chain, Vi.evT_one, Vi.evT_and, Vi.evT_or, Vi.evT_not, Vi.evT_var, Vi.evT_call, Vi.evT_isi, Vi.evT_blt, Vi.evT_ix, Vi.evT_bin, Vi.evT_bl, Vi.ex_pass, Vi.ex_asg, Vi.ex_expr, Vi.ex_ret, Vi.ex_retN, Vi.ex_if, Vi.ex_for, Vi.setK_s, Vi.setK2_s, Vi.setK3_s, Vi.ex_set, Vi.ex_aug, Vi.ex_augS, Vi.augM, Vi.augSM, Vi.exs_nil, Vi.exs_cons, Vi.run_b, Vi.runK_ret, Vi.runK_nx, Vi.frzE_nil, Vi.frz_cons, Vi.frzK_ol, Vi.frzK2_s, Vi.frzK_fz, Vi.frzK_no, Vi.frzK_olI, Vi.rdV_olI, Vi.mvV_olI, Vi.olO_olI, Vi.lent_olI, Vi.closed_olI, Vi.dOf_fz, Vi.dOf_olI, Vi.dOf_olI', Vi.dsOf_fz, Vi.dsOf_ints, Vi.dsOf_nil, Vi.dsOf_cons, Option.map_some, Vi.binD, Vi.add_int, Vi.sub_int, Vi.cmpD, Vi.lt_int, Vi.le_int, Vi.gt_int, Vi.ge_int, Vi.neg_int, Vi.bf_len_l, Vi.bf_len_t, Vi.bf_len_s, Vi.bf_abs, Vi.bf_int, Vi.bf_intb, Vi.bf_max2, Vi.bf_min2, Vi.bf_list_l, Vi.bf_list_t, Vi.bf_tup_l, Vi.bf_sum, Vi.ix_l, Vi.ix_t, Vi.ix_s, Vi.isiD, Vi.chain2_eq, Vi.chainK_b, Vi.iop_add, Vi.iop_sub, Vi.it_l, Vi.it_t, Vi.it_s, Vi.lentOk, Vi.outs_nil, Vi.outs_fz, Vi.outs_c, List.tail_cons, Vi.killE, Vi.noOwn, Vi.closed, Vi.closeds, Vi.closedD, Vi.closeds_ints, Vi.wipeE, Vi.resE, Vi.bd_nm, Vi.bd_tp, Vi.bdN, Vi.bdT, Vi.bdsN, Vi.bdNil, Vi.bdCons, Vi.Tg.js, Vi.partM, Vi.eq_int, Vi.eq_str, Vi.eq_bool, Vi.eq_ints, tS_len, rr, he]
end K17

set_option Elab.async false
set_option linter.all false
set_option maxRecDepth 100000
set_option maxHeartbeats 4000000
namespace K17
open PySem Vi L2
open K56 (pow)
theorem rev_tx {w : List Nat} : revD (tx w) = some (.fz (tx w.reverse)) := rfl
theorem dOf_map {α : Type} {g : α → PyData} {l : List α} : dOf (.ol (l.map fun x => OV.fz (g x))) = some (.list (l.map g)) := by
  show (dsOf _).map _ = _
  rw [dsOf_map]; rfl
theorem okS_ints {n : Nat} {xs : List Nat} (h : xs.length ≤ 16777216) : okS (n + 2) (iL xs) := by
  refine ⟨by rw [List.length_map]; exact h, fun d hd => ?_⟩
  obtain ⟨i, _, rfl⟩ := List.mem_map.mp hd
  exact trivial
theorem same2 {a b : List Nat} (ha : a.length ≤ 1000) (hb : b.length ≤ 1000) : den__law_same [.fz (.list [iL a, iL b]), .fz (.list [iL a, iL b])] = .ok (.fz (.bool true)) [none, none] := by
  rw [← sa_eq]
  refine same_ok 8 _ ⟨by simp, fun d hd => ?_⟩
  simp only [List.mem_cons, List.not_mem_nil, or_false] at hd
  rcases hd with rfl | rfl
  · exact okS_ints (n := 5) (by omega)
  · exact okS_ints (n := 5) (by omega)
theorem sameI (i : Int) : den__law_same [.fz (.int i), .fz (.int i)] = .ok (.fz (.bool true)) [none, none] := by
  rw [← sa_eq]
  exact same_ok 8 _ trivial
theorem bf_maxN {xs : List Nat} {m : Nat} (h : m ∈ xs) (h2 : ∀ x ∈ xs, x ≤ m) : bfD .max [iL xs] = some (.fz (.int (m : Nat))) := by
  have e : (xs.map fun i => PyData.int (i : Nat)) = (xs.map fun i : Nat => (i : Int)).map .int := by simp
  show (intsOf (xs.map fun i => PyData.int (i : Nat))).bind _ = _
  rw [e, ints_ok]
  cases xs with
  | nil => cases h
  | cons x r =>
    show some (OV.fz (.int ((r.map fun i : Nat => (i : Int)).foldl (fun a b => if b > a then b else a) (x : Int)))) = _
    have sp := maxI_spec (r.map fun i : Nat => (i : Int)) (x : Int)
    generalize (r.map fun i : Nat => (i : Int)).foldl (fun a b => if b > a then b else a) (x : Int) = M at sp
    have a1 : (m : Int) ≤ M := sp.2 _ (by
      have : (m : Int) ∈ (x :: r).map fun i : Nat => (i : Int) := List.mem_map.mpr ⟨m, h, rfl⟩
      simpa using this)
    have a2 : M ≤ (m : Int) := by
      have : M ∈ (x :: r).map fun i : Nat => (i : Int) := by simpa using sp.1
      obtain ⟨i, hi, rfl⟩ := List.mem_map.mp this
      have := h2 i hi
      omega
    have : M = (m : Int) := by omega
    rw [this]
section
variable {l : List Nat} (hl : l.length ≤ 1000) (h2 : 2 ≤ l.length)
include h2
theorem max_in : ∃ k, 1 ≤ k ∧ k < l.length ∧ nearV l k = leastV l := by
  obtain ⟨_, a1, a2, a3, a4⟩ := least_spec (l := l) (by omega)
  by_cases q : leastV l = 1
  · obtain ⟨_, b1, _⟩ := near_spec (l := l) (by omega) 1
    have := near_le (l := l) (by omega) 1
    exact ⟨1, by omega, by omega, by omega⟩
  · obtain ⟨k, k1, k2, k3⟩ := near_window (l := l) (by omega) (c := 0) (by omega) (by omega)
    exact ⟨k, by omega, by omega, k3⟩
theorem max_near : bfD .max [iL (nearL l)] = some (.fz (.int (leastV l : Nat))) := by
  obtain ⟨k, k1, k2, k3⟩ := max_in h2
  refine bf_maxN ?_ fun x hx => ?_
  · exact List.mem_map.mpr ⟨k, mem_upF.mpr ⟨k1, k2⟩, k3⟩
  · obtain ⟨j, _, rfl⟩ := List.mem_map.mp hx
    exact near_le (by omega) j
theorem brk_ne : 0 < (brkL l).length := by
  obtain ⟨k, k1, k2, k3⟩ := max_in h2
  refine List.length_pos_of_mem (a := k) ?_
  unfold brkL
  exact List.mem_filter.mpr ⟨mem_upF.mpr ⟨k1, k2⟩, decide_eq_true k3⟩
omit h2 in
theorem near_len : (nearL l).length = l.length - 1 := by simp [nearL, upF]
omit h2 in
theorem brk_len : (brkL l).length ≤ l.length - 1 := by
  unfold brkL
  refine Nat.le_trans (List.length_filter_le _ _) ?_
  simp [upF]
omit h2 in
theorem near_at {k : Nat} (h1 : 1 ≤ k) (hk : k < l.length) : atI ((nearL l).map fun i => PyData.int (i : Nat)) ((k : Int) - 1) = some (.int (nearV l k : Nat)) := by
  have e : (k : Int) - 1 = ((k - 1 : Nat) : Int) := by omega
  rw [e, Vi.atI_nat]
  have h3 : k - 1 < l.length - 1 := by omega
  have e2 : 1 + (k - 1) = k := by omega
  simp [nearL, upF, h3, e2]
/-- the window from begin on holds a break -/
theorem win_ne {b : Nat} (hb : 1 ≤ b) (h1 : 1 < leastV l) (hw : b + leastV l ≤ l.length + 1) : ((brkL l).filter fun k : Nat => decide ((b : Int) ≤ k ∧ (k : Int) < b + (leastV l : Nat) - 1)) ≠ [] := by
  obtain ⟨k, k1, k2, k3⟩ := near_window (l := l) (by omega) (c := b - 1) (by omega) (by omega)
  intro h
  rw [List.filter_eq_nil_iff] at h
  refine h k ?_ (decide_eq_true ⟨by omega, by omega⟩)
  unfold brkL
  exact List.mem_filter.mpr ⟨mem_upF.mpr ⟨by omega, by omega⟩, decide_eq_true k3⟩
end
section
variable {l : List Nat} (hl : l.length ≤ 1000) (h2 : 2 ≤ l.length)
include hl h2
theorem due_comp {o s3 s4 s5 s6 s8 s9 : Option OV} : compL (bdG (.nm 7)) (evC rho__law_right .no) (ev rho__law_right (.call 1 (.e (.var 1) (.e (.var 7) .nil)))) [7] ((upF 1 l.length).map fun i => .int (i : Nat)) [o, some (.fz (tx l)), some (.fz (.int (l.length : Nat))), s3, s4, s5, s6, none, s8, s9] = .ok ((nearL l).map fun i => .fz (.int (i : Nat))) [o, some (.fz (tx l)), some (.fz (.int (l.length : Nat))), s3, s4, s5, s6, none, s8, s9] := by
  have c : compL (bdG (.nm 7)) (evC rho__law_right .no) (ev rho__law_right (.call 1 (.e (.var 1) (.e (.var 7) .nil)))) [7] ((upF 1 l.length).map fun i => .int (i : Nat)) [o, some (.fz (tx l)), some (.fz (.int (l.length : Nat))), s3, s4, s5, s6, none, s8, s9] = .ok (((upF 1 l.length).filter fun _ => true).map fun i => .fz (.int (nearV l i : Nat))) [o, some (.fz (tx l)), some (.fz (.int (l.length : Nat))), s3, s4, s5, s6, none, s8, s9] := by
    refine compL_fm (fun _ => true) (fun i => .fz (.int (nearV l i : Nat))) _ fun x hx => ?_
    have hx := mem_upF.mp hx
    have t := ok_lnear hl (by omega) (show x ≤ l.length by omega)
    generalize nearV l x = N at t ⊢
    generalize (l.length : Int) = n
    exact ⟨[o, some (.fz (tx l)), some (.fz (.int n)), s3, s4, s5, s6, some (.fz (.int (x : Nat))), s8, s9], [o, some (.fz (tx l)), some (.fz (.int n)), s3, s4, s5, s6, some (.fz (.int (x : Nat))), s8, s9], by simp -implicitDefEqProofs [Vi.bind_ok, Vi.bind_bad, Vi.bind_ex, Vi.so_ok, Vi.sb_nx, Vi.sb_ret, Vi.sb_bad, Vi.d_fz, Vi.d_olI, Vi.d_ol, Vi.o_some, Vi.tst_b, Vi.tst_i, Vi.tst_l, Vi.tst_s, Vi.tst_n, Vi.oB_some, Vi.oP_some, Vi.oL_some, Vi.rdV_fz, Vi.rdV_ol, Vi.rdV2_some, Vi.mvV_ol, Vi.mvV_fz, Vi.rdVar_c, Vi.ev_var, Vi.ev_mv, Vi.ev_int, Vi.ev_bl, Vi.ev_non, Vi.ev_str, Vi.ev_gi, Vi.ev_gs, Vi.ev_bin, Vi.ev_neg, Vi.ev_cmp, Vi.evT_cmp, Vi.ev_chain, Vi.ev_one, Vi.andK_b, Vi.orK_b, Vi.notK_b, Vi.ev_and, Vi.ev_or, Vi.ev_not, Vi.isB_b, Vi.ev_ite, Vi.ev_tup, Vi.ev_lst, Vi.ev_ix, Vi.ev_slc, Vi.evP_no, Vi.evP_yes, Vi.ev_call, Vi.calK_some, Vi.calR_ok, Vi.evA_nil, Vi.evA_e, Vi.evA_o, Vi.args_nil, Vi.args_e, Vi.args_o, Vi.argK_s, Vi.asm_nil, Vi.asm_e, Vi.asm_o, Vi.asmK_s, Vi.lent_ol, Vi.lent_sc, Vi.lent_fz, Vi.put_nil, Vi.put_e, Vi.put_o, Vi.ev_blt, Vi.ev_isi, Vi.ev_lsc, Vi.lscK_s, Vi.cmpK_ok, Vi.ev_lc, Vi.evC_no, Vi.evC_yes, Vi.evI_e, Vi.evI_r1, Vi.evI_r2, Vi.evs_nil, Vi.evs_cons, Vi.evO_nil, Vi.evO_cons, Vi.olO_s, Vi.olOf_c, Vi.appK_s, Vi.appK2_s, Vi.ev_app, Vi.ev_mt, Vi.evT_mt, Vi.appNK_s, Vi.ev_appN, Vi.inOf_c, Vi.inK_s, Vi.inK2_s, Vi.mvixK_s, Vi.ev_mvix, Vi.ev_rev, Vi.ev_repC, Vi.evT_rev, Vi.evI_en, Vi.evI_rv, Vi.evI_rg, Vi.rgK_s, Vi.asgTK_s, Vi.ex_asgT, Vi.bwsK_nx, Vi.bwsK_ret, Vi.ex_bws, Vi.ex_rais, Vi.tryK_nx, Vi.tryK_ret, Vi.ex_try, Vi.so_ex, Vi.sb_ex, Vi.d_ex, Vi.runK_ex, Vi.calR_ex, Vi.keepE, Vi.cloF, Vi.closedR, Vi.bwK_ok, Vi.ev_bw, Vi.bwK'_ok, Vi.evT_bw, Vi.evT_chain, Vi.evT_one, Vi.evT_and, Vi.evT_or, Vi.evT_not, Vi.evT_var, Vi.evT_call, Vi.evT_isi, Vi.evT_blt, Vi.evT_ix, Vi.evT_bin, Vi.evT_bl, Vi.ex_pass, Vi.ex_asg, Vi.ex_expr, Vi.ex_ret, Vi.ex_retN, Vi.ex_if, Vi.ex_for, Vi.setK_s, Vi.setK2_s, Vi.setK3_s, Vi.ex_set, Vi.ex_aug, Vi.ex_augS, Vi.augM, Vi.augSM, Vi.exs_nil, Vi.exs_cons, Vi.run_b, Vi.runK_ret, Vi.runK_nx, Vi.frzE_nil, Vi.frz_cons, Vi.frzK_ol, Vi.frzK2_s, Vi.frzK_fz, Vi.frzK_no, Vi.frzK_olI, Vi.rdV_olI, Vi.mvV_olI, Vi.olO_olI, Vi.lent_olI, Vi.closed_olI, Vi.dOf_fz, Vi.dOf_olI, Vi.dOf_olI', Vi.dsOf_fz, Vi.dsOf_ints, Vi.dsOf_nil, Vi.dsOf_cons, Option.map_some, Vi.binD, Vi.add_int, Vi.sub_int, Vi.cmpD, Vi.lt_int, Vi.le_int, Vi.gt_int, Vi.ge_int, Vi.neg_int, Vi.bf_len_l, Vi.bf_len_t, Vi.bf_len_s, Vi.bf_abs, Vi.bf_int, Vi.bf_intb, Vi.bf_max2, Vi.bf_min2, Vi.bf_list_l, Vi.bf_list_t, Vi.bf_tup_l, Vi.bf_sum, Vi.ix_l, Vi.ix_t, Vi.isiD, Vi.chain2_eq, Vi.chainK_b, Vi.iop_add, Vi.iop_sub, Vi.it_l, Vi.it_t, Vi.lentOk, Vi.outs_nil, Vi.outs_fz, Vi.outs_c, List.tail_cons, Vi.killE, Vi.noOwn, Vi.closed, Vi.closeds, Vi.closedD, Vi.closeds_ints, Vi.wipeE, Vi.resE, Vi.bd_nm, Vi.bd_tp, Vi.bdN, Vi.bdT, Vi.bdsN, Vi.bdNil, Vi.bdCons, Vi.Tg.js, Vi.partM, Vi.eq_int, Vi.eq_str, Vi.eq_bool, Vi.eq_ints], by simp -implicitDefEqProofs [Vi.bind_ok, Vi.bind_bad, Vi.bind_ex, Vi.so_ok, Vi.sb_nx, Vi.sb_ret, Vi.sb_bad, Vi.d_fz, Vi.d_olI, Vi.d_ol, Vi.o_some, Vi.tst_b, Vi.tst_i, Vi.tst_l, Vi.tst_s, Vi.tst_n, Vi.oB_some, Vi.oP_some, Vi.oL_some, Vi.rdV_fz, Vi.rdV_ol, Vi.rdV2_some, Vi.mvV_ol, Vi.mvV_fz, Vi.rdVar_c, Vi.ev_var, Vi.ev_mv, Vi.ev_int, Vi.ev_bl, Vi.ev_non, Vi.ev_str, Vi.ev_gi, Vi.ev_gs, Vi.ev_bin, Vi.ev_neg, Vi.ev_cmp, Vi.evT_cmp, Vi.ev_chain, Vi.ev_one, Vi.andK_b, Vi.orK_b, Vi.notK_b, Vi.ev_and, Vi.ev_or, Vi.ev_not, Vi.isB_b, Vi.ev_ite, Vi.ev_tup, Vi.ev_lst, Vi.ev_ix, Vi.ev_slc, Vi.evP_no, Vi.evP_yes, Vi.ev_call, Vi.calK_some, Vi.calR_ok, Vi.evA_nil, Vi.evA_e, Vi.evA_o, Vi.args_nil, Vi.args_e, Vi.args_o, Vi.argK_s, Vi.asm_nil, Vi.asm_e, Vi.asm_o, Vi.asmK_s, Vi.lent_ol, Vi.lent_sc, Vi.lent_fz, Vi.put_nil, Vi.put_e, Vi.put_o, Vi.ev_blt, Vi.ev_isi, Vi.ev_lsc, Vi.lscK_s, Vi.cmpK_ok, Vi.ev_lc, Vi.evC_no, Vi.evC_yes, Vi.evI_e, Vi.evI_r1, Vi.evI_r2, Vi.evs_nil, Vi.evs_cons, Vi.evO_nil, Vi.evO_cons, Vi.olO_s, Vi.olOf_c, Vi.appK_s, Vi.appK2_s, Vi.ev_app, Vi.ev_mt, Vi.evT_mt, Vi.appNK_s, Vi.ev_appN, Vi.inOf_c, Vi.inK_s, Vi.inK2_s, Vi.mvixK_s, Vi.ev_mvix, Vi.ev_rev, Vi.ev_repC, Vi.evT_rev, Vi.evI_en, Vi.evI_rv, Vi.evI_rg, Vi.rgK_s, Vi.asgTK_s, Vi.ex_asgT, Vi.bwsK_nx, Vi.bwsK_ret, Vi.ex_bws, Vi.ex_rais, Vi.tryK_nx, Vi.tryK_ret, Vi.ex_try, Vi.so_ex, Vi.sb_ex, Vi.d_ex, Vi.runK_ex, Vi.calR_ex, Vi.keepE, Vi.cloF, Vi.closedR, Vi.bwK_ok, Vi.ev_bw, Vi.bwK'_ok, Vi.evT_bw, Vi.evT_chain, Vi.evT_one, Vi.evT_and, Vi.evT_or, Vi.evT_not, Vi.evT_var, Vi.evT_call, Vi.evT_isi, Vi.evT_blt, Vi.evT_ix, Vi.evT_bin, Vi.evT_bl, Vi.ex_pass, Vi.ex_asg, Vi.ex_expr, Vi.ex_ret, Vi.ex_retN, Vi.ex_if, Vi.ex_for, Vi.setK_s, Vi.setK2_s, Vi.setK3_s, Vi.ex_set, Vi.ex_aug, Vi.ex_augS, Vi.augM, Vi.augSM, Vi.exs_nil, Vi.exs_cons, Vi.run_b, Vi.runK_ret, Vi.runK_nx, Vi.frzE_nil, Vi.frz_cons, Vi.frzK_ol, Vi.frzK2_s, Vi.frzK_fz, Vi.frzK_no, Vi.frzK_olI, Vi.rdV_olI, Vi.mvV_olI, Vi.olO_olI, Vi.lent_olI, Vi.closed_olI, Vi.dOf_fz, Vi.dOf_olI, Vi.dOf_olI', Vi.dsOf_fz, Vi.dsOf_ints, Vi.dsOf_nil, Vi.dsOf_cons, Option.map_some, Vi.binD, Vi.add_int, Vi.sub_int, Vi.cmpD, Vi.lt_int, Vi.le_int, Vi.gt_int, Vi.ge_int, Vi.neg_int, Vi.bf_len_l, Vi.bf_len_t, Vi.bf_len_s, Vi.bf_abs, Vi.bf_int, Vi.bf_intb, Vi.bf_max2, Vi.bf_min2, Vi.bf_list_l, Vi.bf_list_t, Vi.bf_tup_l, Vi.bf_sum, Vi.ix_l, Vi.ix_t, Vi.isiD, Vi.chain2_eq, Vi.chainK_b, Vi.iop_add, Vi.iop_sub, Vi.it_l, Vi.it_t, Vi.lentOk, Vi.outs_nil, Vi.outs_fz, Vi.outs_c, List.tail_cons, Vi.killE, Vi.noOwn, Vi.closed, Vi.closeds, Vi.closedD, Vi.closeds_ints, Vi.wipeE, Vi.resE, Vi.bd_nm, Vi.bd_tp, Vi.bdN, Vi.bdT, Vi.bdsN, Vi.bdNil, Vi.bdCons, Vi.Tg.js, Vi.partM, Vi.eq_int, Vi.eq_str, Vi.eq_bool, Vi.eq_ints], by simp -implicitDefEqProofs [Vi.bind_ok, Vi.bind_bad, Vi.bind_ex, Vi.so_ok, Vi.sb_nx, Vi.sb_ret, Vi.sb_bad, Vi.d_fz, Vi.d_olI, Vi.d_ol, Vi.o_some, Vi.tst_b, Vi.tst_i, Vi.tst_l, Vi.tst_s, Vi.tst_n, Vi.oB_some, Vi.oP_some, Vi.oL_some, Vi.rdV_fz, Vi.rdV_ol, Vi.rdV2_some, Vi.mvV_ol, Vi.mvV_fz, Vi.rdVar_c, Vi.ev_var, Vi.ev_mv, Vi.ev_int, Vi.ev_bl, Vi.ev_non, Vi.ev_str, Vi.ev_gi, Vi.ev_gs, Vi.ev_bin, Vi.ev_neg, Vi.ev_cmp, Vi.evT_cmp, Vi.ev_chain, Vi.ev_one, Vi.andK_b, Vi.orK_b, Vi.notK_b, Vi.ev_and, Vi.ev_or, Vi.ev_not, Vi.isB_b, Vi.ev_ite, Vi.ev_tup, Vi.ev_lst, Vi.ev_ix, Vi.ev_slc, Vi.evP_no, Vi.evP_yes, Vi.ev_call, Vi.calK_some, Vi.calR_ok, Vi.evA_nil, Vi.evA_e, Vi.evA_o, Vi.args_nil, Vi.args_e, Vi.args_o, Vi.argK_s, Vi.asm_nil, Vi.asm_e, Vi.asm_o, Vi.asmK_s, Vi.lent_ol, Vi.lent_sc, Vi.lent_fz, Vi.put_nil, Vi.put_e, Vi.put_o, Vi.ev_blt, Vi.ev_isi, Vi.ev_lsc, Vi.lscK_s, Vi.cmpK_ok, Vi.ev_lc, Vi.evC_no, Vi.evC_yes, Vi.evI_e, Vi.evI_r1, Vi.evI_r2, Vi.evs_nil, Vi.evs_cons, Vi.evO_nil, Vi.evO_cons, Vi.olO_s, Vi.olOf_c, Vi.appK_s, Vi.appK2_s, Vi.ev_app, Vi.ev_mt, Vi.evT_mt, Vi.appNK_s, Vi.ev_appN, Vi.inOf_c, Vi.inK_s, Vi.inK2_s, Vi.mvixK_s, Vi.ev_mvix, Vi.ev_rev, Vi.ev_repC, Vi.evT_rev, Vi.evI_en, Vi.evI_rv, Vi.evI_rg, Vi.rgK_s, Vi.asgTK_s, Vi.ex_asgT, Vi.bwsK_nx, Vi.bwsK_ret, Vi.ex_bws, Vi.ex_rais, Vi.tryK_nx, Vi.tryK_ret, Vi.ex_try, Vi.so_ex, Vi.sb_ex, Vi.d_ex, Vi.runK_ex, Vi.calR_ex, Vi.keepE, Vi.cloF, Vi.closedR, Vi.bwK_ok, Vi.ev_bw, Vi.bwK'_ok, Vi.evT_bw, Vi.evT_chain, Vi.evT_one, Vi.evT_and, Vi.evT_or, Vi.evT_not, Vi.evT_var, Vi.evT_call, Vi.evT_isi, Vi.evT_blt, Vi.evT_ix, Vi.evT_bin, Vi.evT_bl, Vi.ex_pass, Vi.ex_asg, Vi.ex_expr, Vi.ex_ret, Vi.ex_retN, Vi.ex_if, Vi.ex_for, Vi.setK_s, Vi.setK2_s, Vi.setK3_s, Vi.ex_set, Vi.ex_aug, Vi.ex_augS, Vi.augM, Vi.augSM, Vi.exs_nil, Vi.exs_cons, Vi.run_b, Vi.runK_ret, Vi.runK_nx, Vi.frzE_nil, Vi.frz_cons, Vi.frzK_ol, Vi.frzK2_s, Vi.frzK_fz, Vi.frzK_no, Vi.frzK_olI, Vi.rdV_olI, Vi.mvV_olI, Vi.olO_olI, Vi.lent_olI, Vi.closed_olI, Vi.dOf_fz, Vi.dOf_olI, Vi.dOf_olI', Vi.dsOf_fz, Vi.dsOf_ints, Vi.dsOf_nil, Vi.dsOf_cons, Option.map_some, Vi.binD, Vi.add_int, Vi.sub_int, Vi.cmpD, Vi.lt_int, Vi.le_int, Vi.gt_int, Vi.ge_int, Vi.neg_int, Vi.bf_len_l, Vi.bf_len_t, Vi.bf_len_s, Vi.bf_abs, Vi.bf_int, Vi.bf_intb, Vi.bf_max2, Vi.bf_min2, Vi.bf_list_l, Vi.bf_list_t, Vi.bf_tup_l, Vi.bf_sum, Vi.ix_l, Vi.ix_t, Vi.isiD, Vi.chain2_eq, Vi.chainK_b, Vi.iop_add, Vi.iop_sub, Vi.it_l, Vi.it_t, Vi.lentOk, Vi.outs_nil, Vi.outs_fz, Vi.outs_c, List.tail_cons, Vi.killE, Vi.noOwn, Vi.closed, Vi.closeds, Vi.closedD, Vi.closeds_ints, Vi.wipeE, Vi.resE, Vi.bd_nm, Vi.bd_tp, Vi.bdN, Vi.bdT, Vi.bdsN, Vi.bdNil, Vi.bdCons, Vi.Tg.js, Vi.partM, Vi.eq_int, Vi.eq_str, Vi.eq_bool, Vi.eq_ints, rho__law_right, t]⟩
  have e : (upF 1 l.length).filter (fun _ => true) = upF 1 l.length := by simp
  rw [e] at c
  rw [c, List.map_map]; rfl
theorem brk_comp {o s5 s6 s8 s9 : Option OV} : compL (bdG (.nm 7)) (evC rho__law_right (.yes (.cmp .Eq (.ix (.var 3) (.bin .Sub (.var 7) (.int 1))) (.var 4)))) (ev rho__law_right (.var 7)) [7] ((upF 1 l.length).map fun i => .int (i : Nat)) [o, some (.fz (tx l)), some (.fz (.int (l.length : Nat))), some (iO (nearL l)), some (.fz (.int (leastV l : Nat))), s5, s6, none, s8, s9] = .ok ((brkL l).map fun i => .fz (.int (i : Nat))) [o, some (.fz (tx l)), some (.fz (.int (l.length : Nat))), some (.fz (iL (nearL l))), some (.fz (.int (leastV l : Nat))), s5, s6, none, s8, s9] := by
  obtain ⟨ys, env, h1, h3, h4⟩ := compL_inv (bd := bdG (.nm 7)) (tc := evC rho__law_right (.yes (.cmp .Eq (.ix (.var 3) (.bin .Sub (.var 7) (.int 1))) (.var 4)))) (me := ev rho__law_right (.var 7)) (vs := [7]) (g := fun i : Nat => .int (i : Nat))
    (fun d acc env => acc = (d.filter fun k => decide (nearV l k = leastV l)).map (fun i : Nat => OV.fz (.int (i : Nat))) ∧ ((d = [] ∧ env = [o, some (.fz (tx l)), some (.fz (.int (l.length : Nat))), some (iO (nearL l)), some (.fz (.int (leastV l : Nat))), s5, s6, none, s8, s9]) ∨ env = [o, some (.fz (tx l)), some (.fz (.int (l.length : Nat))), some (.fz (iL (nearL l))), some (.fz (.int (leastV l : Nat))), s5, s6, none, s8, s9])) (upF 1 l.length) [] [] [o, some (.fz (tx l)), some (.fz (.int (l.length : Nat))), some (iO (nearL l)), some (.fz (.int (leastV l : Nat))), s5, s6, none, s8, s9] ⟨rfl, Or.inl ⟨rfl, rfl⟩⟩
    (by
      rintro d acc x r env he ⟨rfl, hE⟩
      have hx : x ∈ upF 1 l.length := by rw [← List.nil_append (upF _ _), ← he]; simp
      have hx := mem_upF.mp hx
      have na := near_at (l := l) hx.1 hx.2
      have e : decide ((nearV l x : Int) = (leastV l : Int)) = decide (nearV l x = leastV l) := by
        rw [Bool.eq_iff_iff, decide_eq_true_iff, decide_eq_true_iff]; omega
      have e2 := eq_int (a := (nearV l x : Int)) (b := (leastV l : Int))
      rw [e] at e2
      rw [List.filter_append]
      have fx : [x].filter (fun k => decide (nearV l k = leastV l)) = if decide (nearV l x = leastV l) = true then [x] else [] := by
        by_cases q : nearV l x = leastV l <;> simp [q]
      rw [fx]
      generalize decide (nearV l x = leastV l) = R at e2 ⊢
      generalize (d.filter fun k => decide (nearV l k = leastV l)) = D
      generalize (nearV l x : Int) = A at e2 na
      generalize (leastV l : Int) = B at e2 hE ⊢
      generalize (l.length : Int) = n at hE ⊢
      generalize nearL l = NL at na hE ⊢
      rcases hE with ⟨rfl, rfl⟩ | rfl
      · refine ⟨[o, some (.fz (tx l)), some (.fz (.int n)), some (iO NL), some (.fz (.int B)), s5, s6, some (.fz (.int (x : Nat))), s8, s9], [o, some (.fz (tx l)), some (.fz (.int n)), some (.fz (iL NL)), some (.fz (.int B)), s5, s6, some (.fz (.int (x : Nat))), s8, s9], R, by simp -implicitDefEqProofs [Vi.bind_ok, Vi.bind_bad, Vi.bind_ex, Vi.so_ok, Vi.sb_nx, Vi.sb_ret, Vi.sb_bad, Vi.d_fz, Vi.d_olI, Vi.d_ol, Vi.o_some, Vi.tst_b, Vi.tst_i, Vi.tst_l, Vi.tst_s, Vi.tst_n, Vi.oB_some, Vi.oP_some, Vi.oL_some, Vi.rdV_fz, Vi.rdV_ol, Vi.rdV2_some, Vi.mvV_ol, Vi.mvV_fz, Vi.rdVar_c, Vi.ev_var, Vi.ev_mv, Vi.ev_int, Vi.ev_bl, Vi.ev_non, Vi.ev_str, Vi.ev_gi, Vi.ev_gs, Vi.ev_bin, Vi.ev_neg, Vi.ev_cmp, Vi.evT_cmp, Vi.ev_chain, Vi.ev_one, Vi.andK_b, Vi.orK_b, Vi.notK_b, Vi.ev_and, Vi.ev_or, Vi.ev_not, Vi.isB_b, Vi.ev_ite, Vi.ev_tup, Vi.ev_lst, Vi.ev_ix, Vi.ev_slc, Vi.evP_no, Vi.evP_yes, Vi.ev_call, Vi.calK_some, Vi.calR_ok, Vi.evA_nil, Vi.evA_e, Vi.evA_o, Vi.args_nil, Vi.args_e, Vi.args_o, Vi.argK_s, Vi.asm_nil, Vi.asm_e, Vi.asm_o, Vi.asmK_s, Vi.lent_ol, Vi.lent_sc, Vi.lent_fz, Vi.put_nil, Vi.put_e, Vi.put_o, Vi.ev_blt, Vi.ev_isi, Vi.ev_lsc, Vi.lscK_s, Vi.cmpK_ok, Vi.ev_lc, Vi.evC_no, Vi.evC_yes, Vi.evI_e, Vi.evI_r1, Vi.evI_r2, Vi.evs_nil, Vi.evs_cons, Vi.evO_nil, Vi.evO_cons, Vi.olO_s, Vi.olOf_c, Vi.appK_s, Vi.appK2_s, Vi.ev_app, Vi.ev_mt, Vi.evT_mt, Vi.appNK_s, Vi.ev_appN, Vi.inOf_c, Vi.inK_s, Vi.inK2_s, Vi.mvixK_s, Vi.ev_mvix, Vi.ev_rev, Vi.ev_repC, Vi.evT_rev, Vi.evI_en, Vi.evI_rv, Vi.evI_rg, Vi.rgK_s, Vi.asgTK_s, Vi.ex_asgT, Vi.bwsK_nx, Vi.bwsK_ret, Vi.ex_bws, Vi.ex_rais, Vi.tryK_nx, Vi.tryK_ret, Vi.ex_try, Vi.so_ex, Vi.sb_ex, Vi.d_ex, Vi.runK_ex, Vi.calR_ex, Vi.keepE, Vi.cloF, Vi.closedR, Vi.bwK_ok, Vi.ev_bw, Vi.bwK'_ok, Vi.evT_bw, Vi.evT_chain, Vi.evT_one, Vi.evT_and, Vi.evT_or, Vi.evT_not, Vi.evT_var, Vi.evT_call, Vi.evT_isi, Vi.evT_blt, Vi.evT_ix, Vi.evT_bin, Vi.evT_bl, Vi.ex_pass, Vi.ex_asg, Vi.ex_expr, Vi.ex_ret, Vi.ex_retN, Vi.ex_if, Vi.ex_for, Vi.setK_s, Vi.setK2_s, Vi.setK3_s, Vi.ex_set, Vi.ex_aug, Vi.ex_augS, Vi.augM, Vi.augSM, Vi.exs_nil, Vi.exs_cons, Vi.run_b, Vi.runK_ret, Vi.runK_nx, Vi.frzE_nil, Vi.frz_cons, Vi.frzK_ol, Vi.frzK2_s, Vi.frzK_fz, Vi.frzK_no, Vi.frzK_olI, Vi.rdV_olI, Vi.mvV_olI, Vi.olO_olI, Vi.lent_olI, Vi.closed_olI, Vi.dOf_fz, Vi.dOf_olI, Vi.dOf_olI', Vi.dsOf_fz, Vi.dsOf_ints, Vi.dsOf_nil, Vi.dsOf_cons, Option.map_some, Vi.binD, Vi.add_int, Vi.sub_int, Vi.cmpD, Vi.lt_int, Vi.le_int, Vi.gt_int, Vi.ge_int, Vi.neg_int, Vi.bf_len_l, Vi.bf_len_t, Vi.bf_len_s, Vi.bf_abs, Vi.bf_int, Vi.bf_intb, Vi.bf_max2, Vi.bf_min2, Vi.bf_list_l, Vi.bf_list_t, Vi.bf_tup_l, Vi.bf_sum, Vi.ix_l, Vi.ix_t, Vi.isiD, Vi.chain2_eq, Vi.chainK_b, Vi.iop_add, Vi.iop_sub, Vi.it_l, Vi.it_t, Vi.lentOk, Vi.outs_nil, Vi.outs_fz, Vi.outs_c, List.tail_cons, Vi.killE, Vi.noOwn, Vi.closed, Vi.closeds, Vi.closedD, Vi.closeds_ints, Vi.wipeE, Vi.resE, Vi.bd_nm, Vi.bd_tp, Vi.bdN, Vi.bdT, Vi.bdsN, Vi.bdNil, Vi.bdCons, Vi.Tg.js, Vi.partM, Vi.eq_int, Vi.eq_str, Vi.eq_bool, Vi.eq_ints], by simp -implicitDefEqProofs [Vi.bind_ok, Vi.bind_bad, Vi.bind_ex, Vi.so_ok, Vi.sb_nx, Vi.sb_ret, Vi.sb_bad, Vi.d_fz, Vi.d_olI, Vi.d_ol, Vi.o_some, Vi.tst_b, Vi.tst_i, Vi.tst_l, Vi.tst_s, Vi.tst_n, Vi.oB_some, Vi.oP_some, Vi.oL_some, Vi.rdV_fz, Vi.rdV_ol, Vi.rdV2_some, Vi.mvV_ol, Vi.mvV_fz, Vi.rdVar_c, Vi.ev_var, Vi.ev_mv, Vi.ev_int, Vi.ev_bl, Vi.ev_non, Vi.ev_str, Vi.ev_gi, Vi.ev_gs, Vi.ev_bin, Vi.ev_neg, Vi.ev_cmp, Vi.evT_cmp, Vi.ev_chain, Vi.ev_one, Vi.andK_b, Vi.orK_b, Vi.notK_b, Vi.ev_and, Vi.ev_or, Vi.ev_not, Vi.isB_b, Vi.ev_ite, Vi.ev_tup, Vi.ev_lst, Vi.ev_ix, Vi.ev_slc, Vi.evP_no, Vi.evP_yes, Vi.ev_call, Vi.calK_some, Vi.calR_ok, Vi.evA_nil, Vi.evA_e, Vi.evA_o, Vi.args_nil, Vi.args_e, Vi.args_o, Vi.argK_s, Vi.asm_nil, Vi.asm_e, Vi.asm_o, Vi.asmK_s, Vi.lent_ol, Vi.lent_sc, Vi.lent_fz, Vi.put_nil, Vi.put_e, Vi.put_o, Vi.ev_blt, Vi.ev_isi, Vi.ev_lsc, Vi.lscK_s, Vi.cmpK_ok, Vi.ev_lc, Vi.evC_no, Vi.evC_yes, Vi.evI_e, Vi.evI_r1, Vi.evI_r2, Vi.evs_nil, Vi.evs_cons, Vi.evO_nil, Vi.evO_cons, Vi.olO_s, Vi.olOf_c, Vi.appK_s, Vi.appK2_s, Vi.ev_app, Vi.ev_mt, Vi.evT_mt, Vi.appNK_s, Vi.ev_appN, Vi.inOf_c, Vi.inK_s, Vi.inK2_s, Vi.mvixK_s, Vi.ev_mvix, Vi.ev_rev, Vi.ev_repC, Vi.evT_rev, Vi.evI_en, Vi.evI_rv, Vi.evI_rg, Vi.rgK_s, Vi.asgTK_s, Vi.ex_asgT, Vi.bwsK_nx, Vi.bwsK_ret, Vi.ex_bws, Vi.ex_rais, Vi.tryK_nx, Vi.tryK_ret, Vi.ex_try, Vi.so_ex, Vi.sb_ex, Vi.d_ex, Vi.runK_ex, Vi.calR_ex, Vi.keepE, Vi.cloF, Vi.closedR, Vi.bwK_ok, Vi.ev_bw, Vi.bwK'_ok, Vi.evT_bw, Vi.evT_chain, Vi.evT_one, Vi.evT_and, Vi.evT_or, Vi.evT_not, Vi.evT_var, Vi.evT_call, Vi.evT_isi, Vi.evT_blt, Vi.evT_ix, Vi.evT_bin, Vi.evT_bl, Vi.ex_pass, Vi.ex_asg, Vi.ex_expr, Vi.ex_ret, Vi.ex_retN, Vi.ex_if, Vi.ex_for, Vi.setK_s, Vi.setK2_s, Vi.setK3_s, Vi.ex_set, Vi.ex_aug, Vi.ex_augS, Vi.augM, Vi.augSM, Vi.exs_nil, Vi.exs_cons, Vi.run_b, Vi.runK_ret, Vi.runK_nx, Vi.frzE_nil, Vi.frz_cons, Vi.frzK_ol, Vi.frzK2_s, Vi.frzK_fz, Vi.frzK_no, Vi.frzK_olI, Vi.rdV_olI, Vi.mvV_olI, Vi.olO_olI, Vi.lent_olI, Vi.closed_olI, Vi.dOf_fz, Vi.dOf_olI, Vi.dOf_olI', Vi.dsOf_fz, Vi.dsOf_ints, Vi.dsOf_nil, Vi.dsOf_cons, Option.map_some, Vi.binD, Vi.add_int, Vi.sub_int, Vi.cmpD, Vi.lt_int, Vi.le_int, Vi.gt_int, Vi.ge_int, Vi.neg_int, Vi.bf_len_l, Vi.bf_len_t, Vi.bf_len_s, Vi.bf_abs, Vi.bf_int, Vi.bf_intb, Vi.bf_max2, Vi.bf_min2, Vi.bf_list_l, Vi.bf_list_t, Vi.bf_tup_l, Vi.bf_sum, Vi.ix_l, Vi.ix_t, Vi.isiD, Vi.chain2_eq, Vi.chainK_b, Vi.iop_add, Vi.iop_sub, Vi.it_l, Vi.it_t, Vi.lentOk, Vi.outs_nil, Vi.outs_fz, Vi.outs_c, List.tail_cons, Vi.killE, Vi.noOwn, Vi.closed, Vi.closeds, Vi.closedD, Vi.closeds_ints, Vi.wipeE, Vi.resE, Vi.bd_nm, Vi.bd_tp, Vi.bdN, Vi.bdT, Vi.bdsN, Vi.bdNil, Vi.bdCons, Vi.Tg.js, Vi.partM, Vi.eq_int, Vi.eq_str, Vi.eq_bool, Vi.eq_ints, -Vi.eq_int, iO, iL, dsOf_map, dsOf_comp, na, e2], ?_⟩
        cases R with
        | true => exact ⟨.fz (.int (x : Nat)), [o, some (.fz (tx l)), some (.fz (.int n)), some (.fz (iL NL)), some (.fz (.int B)), s5, s6, some (.fz (.int (x : Nat))), s8, s9], by simp -implicitDefEqProofs [Vi.bind_ok, Vi.bind_bad, Vi.bind_ex, Vi.so_ok, Vi.sb_nx, Vi.sb_ret, Vi.sb_bad, Vi.d_fz, Vi.d_olI, Vi.d_ol, Vi.o_some, Vi.tst_b, Vi.tst_i, Vi.tst_l, Vi.tst_s, Vi.tst_n, Vi.oB_some, Vi.oP_some, Vi.oL_some, Vi.rdV_fz, Vi.rdV_ol, Vi.rdV2_some, Vi.mvV_ol, Vi.mvV_fz, Vi.rdVar_c, Vi.ev_var, Vi.ev_mv, Vi.ev_int, Vi.ev_bl, Vi.ev_non, Vi.ev_str, Vi.ev_gi, Vi.ev_gs, Vi.ev_bin, Vi.ev_neg, Vi.ev_cmp, Vi.evT_cmp, Vi.ev_chain, Vi.ev_one, Vi.andK_b, Vi.orK_b, Vi.notK_b, Vi.ev_and, Vi.ev_or, Vi.ev_not, Vi.isB_b, Vi.ev_ite, Vi.ev_tup, Vi.ev_lst, Vi.ev_ix, Vi.ev_slc, Vi.evP_no, Vi.evP_yes, Vi.ev_call, Vi.calK_some, Vi.calR_ok, Vi.evA_nil, Vi.evA_e, Vi.evA_o, Vi.args_nil, Vi.args_e, Vi.args_o, Vi.argK_s, Vi.asm_nil, Vi.asm_e, Vi.asm_o, Vi.asmK_s, Vi.lent_ol, Vi.lent_sc, Vi.lent_fz, Vi.put_nil, Vi.put_e, Vi.put_o, Vi.ev_blt, Vi.ev_isi, Vi.ev_lsc, Vi.lscK_s, Vi.cmpK_ok, Vi.ev_lc, Vi.evC_no, Vi.evC_yes, Vi.evI_e, Vi.evI_r1, Vi.evI_r2, Vi.evs_nil, Vi.evs_cons, Vi.evO_nil, Vi.evO_cons, Vi.olO_s, Vi.olOf_c, Vi.appK_s, Vi.appK2_s, Vi.ev_app, Vi.ev_mt, Vi.evT_mt, Vi.appNK_s, Vi.ev_appN, Vi.inOf_c, Vi.inK_s, Vi.inK2_s, Vi.mvixK_s, Vi.ev_mvix, Vi.ev_rev, Vi.ev_repC, Vi.evT_rev, Vi.evI_en, Vi.evI_rv, Vi.evI_rg, Vi.rgK_s, Vi.asgTK_s, Vi.ex_asgT, Vi.bwsK_nx, Vi.bwsK_ret, Vi.ex_bws, Vi.ex_rais, Vi.tryK_nx, Vi.tryK_ret, Vi.ex_try, Vi.so_ex, Vi.sb_ex, Vi.d_ex, Vi.runK_ex, Vi.calR_ex, Vi.keepE, Vi.cloF, Vi.closedR, Vi.bwK_ok, Vi.ev_bw, Vi.bwK'_ok, Vi.evT_bw, Vi.evT_chain, Vi.evT_one, Vi.evT_and, Vi.evT_or, Vi.evT_not, Vi.evT_var, Vi.evT_call, Vi.evT_isi, Vi.evT_blt, Vi.evT_ix, Vi.evT_bin, Vi.evT_bl, Vi.ex_pass, Vi.ex_asg, Vi.ex_expr, Vi.ex_ret, Vi.ex_retN, Vi.ex_if, Vi.ex_for, Vi.setK_s, Vi.setK2_s, Vi.setK3_s, Vi.ex_set, Vi.ex_aug, Vi.ex_augS, Vi.augM, Vi.augSM, Vi.exs_nil, Vi.exs_cons, Vi.run_b, Vi.runK_ret, Vi.runK_nx, Vi.frzE_nil, Vi.frz_cons, Vi.frzK_ol, Vi.frzK2_s, Vi.frzK_fz, Vi.frzK_no, Vi.frzK_olI, Vi.rdV_olI, Vi.mvV_olI, Vi.olO_olI, Vi.lent_olI, Vi.closed_olI, Vi.dOf_fz, Vi.dOf_olI, Vi.dOf_olI', Vi.dsOf_fz, Vi.dsOf_ints, Vi.dsOf_nil, Vi.dsOf_cons, Option.map_some, Vi.binD, Vi.add_int, Vi.sub_int, Vi.cmpD, Vi.lt_int, Vi.le_int, Vi.gt_int, Vi.ge_int, Vi.neg_int, Vi.bf_len_l, Vi.bf_len_t, Vi.bf_len_s, Vi.bf_abs, Vi.bf_int, Vi.bf_intb, Vi.bf_max2, Vi.bf_min2, Vi.bf_list_l, Vi.bf_list_t, Vi.bf_tup_l, Vi.bf_sum, Vi.ix_l, Vi.ix_t, Vi.isiD, Vi.chain2_eq, Vi.chainK_b, Vi.iop_add, Vi.iop_sub, Vi.it_l, Vi.it_t, Vi.lentOk, Vi.outs_nil, Vi.outs_fz, Vi.outs_c, List.tail_cons, Vi.killE, Vi.noOwn, Vi.closed, Vi.closeds, Vi.closedD, Vi.closeds_ints, Vi.wipeE, Vi.resE, Vi.bd_nm, Vi.bd_tp, Vi.bdN, Vi.bdT, Vi.bdsN, Vi.bdNil, Vi.bdCons, Vi.Tg.js, Vi.partM, Vi.eq_int, Vi.eq_str, Vi.eq_bool, Vi.eq_ints], by simp, Or.inr (by simp -implicitDefEqProofs [Vi.bind_ok, Vi.bind_bad, Vi.bind_ex, Vi.so_ok, Vi.sb_nx, Vi.sb_ret, Vi.sb_bad, Vi.d_fz, Vi.d_olI, Vi.d_ol, Vi.o_some, Vi.tst_b, Vi.tst_i, Vi.tst_l, Vi.tst_s, Vi.tst_n, Vi.oB_some, Vi.oP_some, Vi.oL_some, Vi.rdV_fz, Vi.rdV_ol, Vi.rdV2_some, Vi.mvV_ol, Vi.mvV_fz, Vi.rdVar_c, Vi.ev_var, Vi.ev_mv, Vi.ev_int, Vi.ev_bl, Vi.ev_non, Vi.ev_str, Vi.ev_gi, Vi.ev_gs, Vi.ev_bin, Vi.ev_neg, Vi.ev_cmp, Vi.evT_cmp, Vi.ev_chain, Vi.ev_one, Vi.andK_b, Vi.orK_b, Vi.notK_b, Vi.ev_and, Vi.ev_or, Vi.ev_not, Vi.isB_b, Vi.ev_ite, Vi.ev_tup, Vi.ev_lst, Vi.ev_ix, Vi.ev_slc, Vi.evP_no, Vi.evP_yes, Vi.ev_call, Vi.calK_some, Vi.calR_ok, Vi.evA_nil, Vi.evA_e, Vi.evA_o, Vi.args_nil, Vi.args_e, Vi.args_o, Vi.argK_s, Vi.asm_nil, Vi.asm_e, Vi.asm_o, Vi.asmK_s, Vi.lent_ol, Vi.lent_sc, Vi.lent_fz, Vi.put_nil, Vi.put_e, Vi.put_o, Vi.ev_blt, Vi.ev_isi, Vi.ev_lsc, Vi.lscK_s, Vi.cmpK_ok, Vi.ev_lc, Vi.evC_no, Vi.evC_yes, Vi.evI_e, Vi.evI_r1, Vi.evI_r2, Vi.evs_nil, Vi.evs_cons, Vi.evO_nil, Vi.evO_cons, Vi.olO_s, Vi.olOf_c, Vi.appK_s, Vi.appK2_s, Vi.ev_app, Vi.ev_mt, Vi.evT_mt, Vi.appNK_s, Vi.ev_appN, Vi.inOf_c, Vi.inK_s, Vi.inK2_s, Vi.mvixK_s, Vi.ev_mvix, Vi.ev_rev, Vi.ev_repC, Vi.evT_rev, Vi.evI_en, Vi.evI_rv, Vi.evI_rg, Vi.rgK_s, Vi.asgTK_s, Vi.ex_asgT, Vi.bwsK_nx, Vi.bwsK_ret, Vi.ex_bws, Vi.ex_rais, Vi.tryK_nx, Vi.tryK_ret, Vi.ex_try, Vi.so_ex, Vi.sb_ex, Vi.d_ex, Vi.runK_ex, Vi.calR_ex, Vi.keepE, Vi.cloF, Vi.closedR, Vi.bwK_ok, Vi.ev_bw, Vi.bwK'_ok, Vi.evT_bw, Vi.evT_chain, Vi.evT_one, Vi.evT_and, Vi.evT_or, Vi.evT_not, Vi.evT_var, Vi.evT_call, Vi.evT_isi, Vi.evT_blt, Vi.evT_ix, Vi.evT_bin, Vi.evT_bl, Vi.ex_pass, Vi.ex_asg, Vi.ex_expr, Vi.ex_ret, Vi.ex_retN, Vi.ex_if, Vi.ex_for, Vi.setK_s, Vi.setK2_s, Vi.setK3_s, Vi.ex_set, Vi.ex_aug, Vi.ex_augS, Vi.augM, Vi.augSM, Vi.exs_nil, Vi.exs_cons, Vi.run_b, Vi.runK_ret, Vi.runK_nx, Vi.frzE_nil, Vi.frz_cons, Vi.frzK_ol, Vi.frzK2_s, Vi.frzK_fz, Vi.frzK_no, Vi.frzK_olI, Vi.rdV_olI, Vi.mvV_olI, Vi.olO_olI, Vi.lent_olI, Vi.closed_olI, Vi.dOf_fz, Vi.dOf_olI, Vi.dOf_olI', Vi.dsOf_fz, Vi.dsOf_ints, Vi.dsOf_nil, Vi.dsOf_cons, Option.map_some, Vi.binD, Vi.add_int, Vi.sub_int, Vi.cmpD, Vi.lt_int, Vi.le_int, Vi.gt_int, Vi.ge_int, Vi.neg_int, Vi.bf_len_l, Vi.bf_len_t, Vi.bf_len_s, Vi.bf_abs, Vi.bf_int, Vi.bf_intb, Vi.bf_max2, Vi.bf_min2, Vi.bf_list_l, Vi.bf_list_t, Vi.bf_tup_l, Vi.bf_sum, Vi.ix_l, Vi.ix_t, Vi.isiD, Vi.chain2_eq, Vi.chainK_b, Vi.iop_add, Vi.iop_sub, Vi.it_l, Vi.it_t, Vi.lentOk, Vi.outs_nil, Vi.outs_fz, Vi.outs_c, List.tail_cons, Vi.killE, Vi.noOwn, Vi.closed, Vi.closeds, Vi.closedD, Vi.closeds_ints, Vi.wipeE, Vi.resE, Vi.bd_nm, Vi.bd_tp, Vi.bdN, Vi.bdT, Vi.bdsN, Vi.bdNil, Vi.bdCons, Vi.Tg.js, Vi.partM, Vi.eq_int, Vi.eq_str, Vi.eq_bool, Vi.eq_ints])⟩
        | false => exact ⟨by simp, Or.inr (by simp -implicitDefEqProofs [Vi.bind_ok, Vi.bind_bad, Vi.bind_ex, Vi.so_ok, Vi.sb_nx, Vi.sb_ret, Vi.sb_bad, Vi.d_fz, Vi.d_olI, Vi.d_ol, Vi.o_some, Vi.tst_b, Vi.tst_i, Vi.tst_l, Vi.tst_s, Vi.tst_n, Vi.oB_some, Vi.oP_some, Vi.oL_some, Vi.rdV_fz, Vi.rdV_ol, Vi.rdV2_some, Vi.mvV_ol, Vi.mvV_fz, Vi.rdVar_c, Vi.ev_var, Vi.ev_mv, Vi.ev_int, Vi.ev_bl, Vi.ev_non, Vi.ev_str, Vi.ev_gi, Vi.ev_gs, Vi.ev_bin, Vi.ev_neg, Vi.ev_cmp, Vi.evT_cmp, Vi.ev_chain, Vi.ev_one, Vi.andK_b, Vi.orK_b, Vi.notK_b, Vi.ev_and, Vi.ev_or, Vi.ev_not, Vi.isB_b, Vi.ev_ite, Vi.ev_tup, Vi.ev_lst, Vi.ev_ix, Vi.ev_slc, Vi.evP_no, Vi.evP_yes, Vi.ev_call, Vi.calK_some, Vi.calR_ok, Vi.evA_nil, Vi.evA_e, Vi.evA_o, Vi.args_nil, Vi.args_e, Vi.args_o, Vi.argK_s, Vi.asm_nil, Vi.asm_e, Vi.asm_o, Vi.asmK_s, Vi.lent_ol, Vi.lent_sc, Vi.lent_fz, Vi.put_nil, Vi.put_e, Vi.put_o, Vi.ev_blt, Vi.ev_isi, Vi.ev_lsc, Vi.lscK_s, Vi.cmpK_ok, Vi.ev_lc, Vi.evC_no, Vi.evC_yes, Vi.evI_e, Vi.evI_r1, Vi.evI_r2, Vi.evs_nil, Vi.evs_cons, Vi.evO_nil, Vi.evO_cons, Vi.olO_s, Vi.olOf_c, Vi.appK_s, Vi.appK2_s, Vi.ev_app, Vi.ev_mt, Vi.evT_mt, Vi.appNK_s, Vi.ev_appN, Vi.inOf_c, Vi.inK_s, Vi.inK2_s, Vi.mvixK_s, Vi.ev_mvix, Vi.ev_rev, Vi.ev_repC, Vi.evT_rev, Vi.evI_en, Vi.evI_rv, Vi.evI_rg, Vi.rgK_s, Vi.asgTK_s, Vi.ex_asgT, Vi.bwsK_nx, Vi.bwsK_ret, Vi.ex_bws, Vi.ex_rais, Vi.tryK_nx, Vi.tryK_ret, Vi.ex_try, Vi.so_ex, Vi.sb_ex, Vi.d_ex, Vi.runK_ex, Vi.calR_ex, Vi.keepE, Vi.cloF, Vi.closedR, Vi.bwK_ok, Vi.ev_bw, Vi.bwK'_ok, Vi.evT_bw, Vi.evT_chain, Vi.evT_one, Vi.evT_and, Vi.evT_or, Vi.evT_not, Vi.evT_var, Vi.evT_call, Vi.evT_isi, Vi.evT_blt, Vi.evT_ix, Vi.evT_bin, Vi.evT_bl, Vi.ex_pass, Vi.ex_asg, Vi.ex_expr, Vi.ex_ret, Vi.ex_retN, Vi.ex_if, Vi.ex_for, Vi.setK_s, Vi.setK2_s, Vi.setK3_s, Vi.ex_set, Vi.ex_aug, Vi.ex_augS, Vi.augM, Vi.augSM, Vi.exs_nil, Vi.exs_cons, Vi.run_b, Vi.runK_ret, Vi.runK_nx, Vi.frzE_nil, Vi.frz_cons, Vi.frzK_ol, Vi.frzK2_s, Vi.frzK_fz, Vi.frzK_no, Vi.frzK_olI, Vi.rdV_olI, Vi.mvV_olI, Vi.olO_olI, Vi.lent_olI, Vi.closed_olI, Vi.dOf_fz, Vi.dOf_olI, Vi.dOf_olI', Vi.dsOf_fz, Vi.dsOf_ints, Vi.dsOf_nil, Vi.dsOf_cons, Option.map_some, Vi.binD, Vi.add_int, Vi.sub_int, Vi.cmpD, Vi.lt_int, Vi.le_int, Vi.gt_int, Vi.ge_int, Vi.neg_int, Vi.bf_len_l, Vi.bf_len_t, Vi.bf_len_s, Vi.bf_abs, Vi.bf_int, Vi.bf_intb, Vi.bf_max2, Vi.bf_min2, Vi.bf_list_l, Vi.bf_list_t, Vi.bf_tup_l, Vi.bf_sum, Vi.ix_l, Vi.ix_t, Vi.isiD, Vi.chain2_eq, Vi.chainK_b, Vi.iop_add, Vi.iop_sub, Vi.it_l, Vi.it_t, Vi.lentOk, Vi.outs_nil, Vi.outs_fz, Vi.outs_c, List.tail_cons, Vi.killE, Vi.noOwn, Vi.closed, Vi.closeds, Vi.closedD, Vi.closeds_ints, Vi.wipeE, Vi.resE, Vi.bd_nm, Vi.bd_tp, Vi.bdN, Vi.bdT, Vi.bdsN, Vi.bdNil, Vi.bdCons, Vi.Tg.js, Vi.partM, Vi.eq_int, Vi.eq_str, Vi.eq_bool, Vi.eq_ints])⟩
      · refine ⟨[o, some (.fz (tx l)), some (.fz (.int n)), some (.fz (iL NL)), some (.fz (.int B)), s5, s6, some (.fz (.int (x : Nat))), s8, s9], [o, some (.fz (tx l)), some (.fz (.int n)), some (.fz (iL NL)), some (.fz (.int B)), s5, s6, some (.fz (.int (x : Nat))), s8, s9], R, by simp -implicitDefEqProofs [Vi.bind_ok, Vi.bind_bad, Vi.bind_ex, Vi.so_ok, Vi.sb_nx, Vi.sb_ret, Vi.sb_bad, Vi.d_fz, Vi.d_olI, Vi.d_ol, Vi.o_some, Vi.tst_b, Vi.tst_i, Vi.tst_l, Vi.tst_s, Vi.tst_n, Vi.oB_some, Vi.oP_some, Vi.oL_some, Vi.rdV_fz, Vi.rdV_ol, Vi.rdV2_some, Vi.mvV_ol, Vi.mvV_fz, Vi.rdVar_c, Vi.ev_var, Vi.ev_mv, Vi.ev_int, Vi.ev_bl, Vi.ev_non, Vi.ev_str, Vi.ev_gi, Vi.ev_gs, Vi.ev_bin, Vi.ev_neg, Vi.ev_cmp, Vi.evT_cmp, Vi.ev_chain, Vi.ev_one, Vi.andK_b, Vi.orK_b, Vi.notK_b, Vi.ev_and, Vi.ev_or, Vi.ev_not, Vi.isB_b, Vi.ev_ite, Vi.ev_tup, Vi.ev_lst, Vi.ev_ix, Vi.ev_slc, Vi.evP_no, Vi.evP_yes, Vi.ev_call, Vi.calK_some, Vi.calR_ok, Vi.evA_nil, Vi.evA_e, Vi.evA_o, Vi.args_nil, Vi.args_e, Vi.args_o, Vi.argK_s, Vi.asm_nil, Vi.asm_e, Vi.asm_o, Vi.asmK_s, Vi.lent_ol, Vi.lent_sc, Vi.lent_fz, Vi.put_nil, Vi.put_e, Vi.put_o, Vi.ev_blt, Vi.ev_isi, Vi.ev_lsc, Vi.lscK_s, Vi.cmpK_ok, Vi.ev_lc, Vi.evC_no, Vi.evC_yes, Vi.evI_e, Vi.evI_r1, Vi.evI_r2, Vi.evs_nil, Vi.evs_cons, Vi.evO_nil, Vi.evO_cons, Vi.olO_s, Vi.olOf_c, Vi.appK_s, Vi.appK2_s, Vi.ev_app, Vi.ev_mt, Vi.evT_mt, Vi.appNK_s, Vi.ev_appN, Vi.inOf_c, Vi.inK_s, Vi.inK2_s, Vi.mvixK_s, Vi.ev_mvix, Vi.ev_rev, Vi.ev_repC, Vi.evT_rev, Vi.evI_en, Vi.evI_rv, Vi.evI_rg, Vi.rgK_s, Vi.asgTK_s, Vi.ex_asgT, Vi.bwsK_nx, Vi.bwsK_ret, Vi.ex_bws, Vi.ex_rais, Vi.tryK_nx, Vi.tryK_ret, Vi.ex_try, Vi.so_ex, Vi.sb_ex, Vi.d_ex, Vi.runK_ex, Vi.calR_ex, Vi.keepE, Vi.cloF, Vi.closedR, Vi.bwK_ok, Vi.ev_bw, Vi.bwK'_ok, Vi.evT_bw, Vi.evT_chain, Vi.evT_one, Vi.evT_and, Vi.evT_or, Vi.evT_not, Vi.evT_var, Vi.evT_call, Vi.evT_isi, Vi.evT_blt, Vi.evT_ix, Vi.evT_bin, Vi.evT_bl, Vi.ex_pass, Vi.ex_asg, Vi.ex_expr, Vi.ex_ret, Vi.ex_retN, Vi.ex_if, Vi.ex_for, Vi.setK_s, Vi.setK2_s, Vi.setK3_s, Vi.ex_set, Vi.ex_aug, Vi.ex_augS, Vi.augM, Vi.augSM, Vi.exs_nil, Vi.exs_cons, Vi.run_b, Vi.runK_ret, Vi.runK_nx, Vi.frzE_nil, Vi.frz_cons, Vi.frzK_ol, Vi.frzK2_s, Vi.frzK_fz, Vi.frzK_no, Vi.frzK_olI, Vi.rdV_olI, Vi.mvV_olI, Vi.olO_olI, Vi.lent_olI, Vi.closed_olI, Vi.dOf_fz, Vi.dOf_olI, Vi.dOf_olI', Vi.dsOf_fz, Vi.dsOf_ints, Vi.dsOf_nil, Vi.dsOf_cons, Option.map_some, Vi.binD, Vi.add_int, Vi.sub_int, Vi.cmpD, Vi.lt_int, Vi.le_int, Vi.gt_int, Vi.ge_int, Vi.neg_int, Vi.bf_len_l, Vi.bf_len_t, Vi.bf_len_s, Vi.bf_abs, Vi.bf_int, Vi.bf_intb, Vi.bf_max2, Vi.bf_min2, Vi.bf_list_l, Vi.bf_list_t, Vi.bf_tup_l, Vi.bf_sum, Vi.ix_l, Vi.ix_t, Vi.isiD, Vi.chain2_eq, Vi.chainK_b, Vi.iop_add, Vi.iop_sub, Vi.it_l, Vi.it_t, Vi.lentOk, Vi.outs_nil, Vi.outs_fz, Vi.outs_c, List.tail_cons, Vi.killE, Vi.noOwn, Vi.closed, Vi.closeds, Vi.closedD, Vi.closeds_ints, Vi.wipeE, Vi.resE, Vi.bd_nm, Vi.bd_tp, Vi.bdN, Vi.bdT, Vi.bdsN, Vi.bdNil, Vi.bdCons, Vi.Tg.js, Vi.partM, Vi.eq_int, Vi.eq_str, Vi.eq_bool, Vi.eq_ints], by simp -implicitDefEqProofs [Vi.bind_ok, Vi.bind_bad, Vi.bind_ex, Vi.so_ok, Vi.sb_nx, Vi.sb_ret, Vi.sb_bad, Vi.d_fz, Vi.d_olI, Vi.d_ol, Vi.o_some, Vi.tst_b, Vi.tst_i, Vi.tst_l, Vi.tst_s, Vi.tst_n, Vi.oB_some, Vi.oP_some, Vi.oL_some, Vi.rdV_fz, Vi.rdV_ol, Vi.rdV2_some, Vi.mvV_ol, Vi.mvV_fz, Vi.rdVar_c, Vi.ev_var, Vi.ev_mv, Vi.ev_int, Vi.ev_bl, Vi.ev_non, Vi.ev_str, Vi.ev_gi, Vi.ev_gs, Vi.ev_bin, Vi.ev_neg, Vi.ev_cmp, Vi.evT_cmp, Vi.ev_chain, Vi.ev_one, Vi.andK_b, Vi.orK_b, Vi.notK_b, Vi.ev_and, Vi.ev_or, Vi.ev_not, Vi.isB_b, Vi.ev_ite, Vi.ev_tup, Vi.ev_lst, Vi.ev_ix, Vi.ev_slc, Vi.evP_no, Vi.evP_yes, Vi.ev_call, Vi.calK_some, Vi.calR_ok, Vi.evA_nil, Vi.evA_e, Vi.evA_o, Vi.args_nil, Vi.args_e, Vi.args_o, Vi.argK_s, Vi.asm_nil, Vi.asm_e, Vi.asm_o, Vi.asmK_s, Vi.lent_ol, Vi.lent_sc, Vi.lent_fz, Vi.put_nil, Vi.put_e, Vi.put_o, Vi.ev_blt, Vi.ev_isi, Vi.ev_lsc, Vi.lscK_s, Vi.cmpK_ok, Vi.ev_lc, Vi.evC_no, Vi.evC_yes, Vi.evI_e, Vi.evI_r1, Vi.evI_r2, Vi.evs_nil, Vi.evs_cons, Vi.evO_nil, Vi.evO_cons, Vi.olO_s, Vi.olOf_c, Vi.appK_s, Vi.appK2_s, Vi.ev_app, Vi.ev_mt, Vi.evT_mt, Vi.appNK_s, Vi.ev_appN, Vi.inOf_c, Vi.inK_s, Vi.inK2_s, Vi.mvixK_s, Vi.ev_mvix, Vi.ev_rev, Vi.ev_repC, Vi.evT_rev, Vi.evI_en, Vi.evI_rv, Vi.evI_rg, Vi.rgK_s, Vi.asgTK_s, Vi.ex_asgT, Vi.bwsK_nx, Vi.bwsK_ret, Vi.ex_bws, Vi.ex_rais, Vi.tryK_nx, Vi.tryK_ret, Vi.ex_try, Vi.so_ex, Vi.sb_ex, Vi.d_ex, Vi.runK_ex, Vi.calR_ex, Vi.keepE, Vi.cloF, Vi.closedR, Vi.bwK_ok, Vi.ev_bw, Vi.bwK'_ok, Vi.evT_bw, Vi.evT_chain, Vi.evT_one, Vi.evT_and, Vi.evT_or, Vi.evT_not, Vi.evT_var, Vi.evT_call, Vi.evT_isi, Vi.evT_blt, Vi.evT_ix, Vi.evT_bin, Vi.evT_bl, Vi.ex_pass, Vi.ex_asg, Vi.ex_expr, Vi.ex_ret, Vi.ex_retN, Vi.ex_if, Vi.ex_for, Vi.setK_s, Vi.setK2_s, Vi.setK3_s, Vi.ex_set, Vi.ex_aug, Vi.ex_augS, Vi.augM, Vi.augSM, Vi.exs_nil, Vi.exs_cons, Vi.run_b, Vi.runK_ret, Vi.runK_nx, Vi.frzE_nil, Vi.frz_cons, Vi.frzK_ol, Vi.frzK2_s, Vi.frzK_fz, Vi.frzK_no, Vi.frzK_olI, Vi.rdV_olI, Vi.mvV_olI, Vi.olO_olI, Vi.lent_olI, Vi.closed_olI, Vi.dOf_fz, Vi.dOf_olI, Vi.dOf_olI', Vi.dsOf_fz, Vi.dsOf_ints, Vi.dsOf_nil, Vi.dsOf_cons, Option.map_some, Vi.binD, Vi.add_int, Vi.sub_int, Vi.cmpD, Vi.lt_int, Vi.le_int, Vi.gt_int, Vi.ge_int, Vi.neg_int, Vi.bf_len_l, Vi.bf_len_t, Vi.bf_len_s, Vi.bf_abs, Vi.bf_int, Vi.bf_intb, Vi.bf_max2, Vi.bf_min2, Vi.bf_list_l, Vi.bf_list_t, Vi.bf_tup_l, Vi.bf_sum, Vi.ix_l, Vi.ix_t, Vi.isiD, Vi.chain2_eq, Vi.chainK_b, Vi.iop_add, Vi.iop_sub, Vi.it_l, Vi.it_t, Vi.lentOk, Vi.outs_nil, Vi.outs_fz, Vi.outs_c, List.tail_cons, Vi.killE, Vi.noOwn, Vi.closed, Vi.closeds, Vi.closedD, Vi.closeds_ints, Vi.wipeE, Vi.resE, Vi.bd_nm, Vi.bd_tp, Vi.bdN, Vi.bdT, Vi.bdsN, Vi.bdNil, Vi.bdCons, Vi.Tg.js, Vi.partM, Vi.eq_int, Vi.eq_str, Vi.eq_bool, Vi.eq_ints, -Vi.eq_int, iO, iL, dsOf_map, dsOf_comp, na, e2], ?_⟩
        cases R with
        | true => exact ⟨.fz (.int (x : Nat)), [o, some (.fz (tx l)), some (.fz (.int n)), some (.fz (iL NL)), some (.fz (.int B)), s5, s6, some (.fz (.int (x : Nat))), s8, s9], by simp -implicitDefEqProofs [Vi.bind_ok, Vi.bind_bad, Vi.bind_ex, Vi.so_ok, Vi.sb_nx, Vi.sb_ret, Vi.sb_bad, Vi.d_fz, Vi.d_olI, Vi.d_ol, Vi.o_some, Vi.tst_b, Vi.tst_i, Vi.tst_l, Vi.tst_s, Vi.tst_n, Vi.oB_some, Vi.oP_some, Vi.oL_some, Vi.rdV_fz, Vi.rdV_ol, Vi.rdV2_some, Vi.mvV_ol, Vi.mvV_fz, Vi.rdVar_c, Vi.ev_var, Vi.ev_mv, Vi.ev_int, Vi.ev_bl, Vi.ev_non, Vi.ev_str, Vi.ev_gi, Vi.ev_gs, Vi.ev_bin, Vi.ev_neg, Vi.ev_cmp, Vi.evT_cmp, Vi.ev_chain, Vi.ev_one, Vi.andK_b, Vi.orK_b, Vi.notK_b, Vi.ev_and, Vi.ev_or, Vi.ev_not, Vi.isB_b, Vi.ev_ite, Vi.ev_tup, Vi.ev_lst, Vi.ev_ix, Vi.ev_slc, Vi.evP_no, Vi.evP_yes, Vi.ev_call, Vi.calK_some, Vi.calR_ok, Vi.evA_nil, Vi.evA_e, Vi.evA_o, Vi.args_nil, Vi.args_e, Vi.args_o, Vi.argK_s, Vi.asm_nil, Vi.asm_e, Vi.asm_o, Vi.asmK_s, Vi.lent_ol, Vi.lent_sc, Vi.lent_fz, Vi.put_nil, Vi.put_e, Vi.put_o, Vi.ev_blt, Vi.ev_isi, Vi.ev_lsc, Vi.lscK_s, Vi.cmpK_ok, Vi.ev_lc, Vi.evC_no, Vi.evC_yes, Vi.evI_e, Vi.evI_r1, Vi.evI_r2, Vi.evs_nil, Vi.evs_cons, Vi.evO_nil, Vi.evO_cons, Vi.olO_s, Vi.olOf_c, Vi.appK_s, Vi.appK2_s, Vi.ev_app, Vi.ev_mt, Vi.evT_mt, Vi.appNK_s, Vi.ev_appN, Vi.inOf_c, Vi.inK_s, Vi.inK2_s, Vi.mvixK_s, Vi.ev_mvix, Vi.ev_rev, Vi.ev_repC, Vi.evT_rev, Vi.evI_en, Vi.evI_rv, Vi.evI_rg, Vi.rgK_s, Vi.asgTK_s, Vi.ex_asgT, Vi.bwsK_nx, Vi.bwsK_ret, Vi.ex_bws, Vi.ex_rais, Vi.tryK_nx, Vi.tryK_ret, Vi.ex_try, Vi.so_ex, Vi.sb_ex, Vi.d_ex, Vi.runK_ex, Vi.calR_ex, Vi.keepE, Vi.cloF, Vi.closedR, Vi.bwK_ok, Vi.ev_bw, Vi.bwK'_ok, Vi.evT_bw, Vi.evT_chain, Vi.evT_one, Vi.evT_and, Vi.evT_or, Vi.evT_not, Vi.evT_var, Vi.evT_call, Vi.evT_isi, Vi.evT_blt, Vi.evT_ix, Vi.evT_bin, Vi.evT_bl, Vi.ex_pass, Vi.ex_asg, Vi.ex_expr, Vi.ex_ret, Vi.ex_retN, Vi.ex_if, Vi.ex_for, Vi.setK_s, Vi.setK2_s, Vi.setK3_s, Vi.ex_set, Vi.ex_aug, Vi.ex_augS, Vi.augM, Vi.augSM, Vi.exs_nil, Vi.exs_cons, Vi.run_b, Vi.runK_ret, Vi.runK_nx, Vi.frzE_nil, Vi.frz_cons, Vi.frzK_ol, Vi.frzK2_s, Vi.frzK_fz, Vi.frzK_no, Vi.frzK_olI, Vi.rdV_olI, Vi.mvV_olI, Vi.olO_olI, Vi.lent_olI, Vi.closed_olI, Vi.dOf_fz, Vi.dOf_olI, Vi.dOf_olI', Vi.dsOf_fz, Vi.dsOf_ints, Vi.dsOf_nil, Vi.dsOf_cons, Option.map_some, Vi.binD, Vi.add_int, Vi.sub_int, Vi.cmpD, Vi.lt_int, Vi.le_int, Vi.gt_int, Vi.ge_int, Vi.neg_int, Vi.bf_len_l, Vi.bf_len_t, Vi.bf_len_s, Vi.bf_abs, Vi.bf_int, Vi.bf_intb, Vi.bf_max2, Vi.bf_min2, Vi.bf_list_l, Vi.bf_list_t, Vi.bf_tup_l, Vi.bf_sum, Vi.ix_l, Vi.ix_t, Vi.isiD, Vi.chain2_eq, Vi.chainK_b, Vi.iop_add, Vi.iop_sub, Vi.it_l, Vi.it_t, Vi.lentOk, Vi.outs_nil, Vi.outs_fz, Vi.outs_c, List.tail_cons, Vi.killE, Vi.noOwn, Vi.closed, Vi.closeds, Vi.closedD, Vi.closeds_ints, Vi.wipeE, Vi.resE, Vi.bd_nm, Vi.bd_tp, Vi.bdN, Vi.bdT, Vi.bdsN, Vi.bdNil, Vi.bdCons, Vi.Tg.js, Vi.partM, Vi.eq_int, Vi.eq_str, Vi.eq_bool, Vi.eq_ints], by simp, Or.inr (by simp -implicitDefEqProofs [Vi.bind_ok, Vi.bind_bad, Vi.bind_ex, Vi.so_ok, Vi.sb_nx, Vi.sb_ret, Vi.sb_bad, Vi.d_fz, Vi.d_olI, Vi.d_ol, Vi.o_some, Vi.tst_b, Vi.tst_i, Vi.tst_l, Vi.tst_s, Vi.tst_n, Vi.oB_some, Vi.oP_some, Vi.oL_some, Vi.rdV_fz, Vi.rdV_ol, Vi.rdV2_some, Vi.mvV_ol, Vi.mvV_fz, Vi.rdVar_c, Vi.ev_var, Vi.ev_mv, Vi.ev_int, Vi.ev_bl, Vi.ev_non, Vi.ev_str, Vi.ev_gi, Vi.ev_gs, Vi.ev_bin, Vi.ev_neg, Vi.ev_cmp, Vi.evT_cmp, Vi.ev_chain, Vi.ev_one, Vi.andK_b, Vi.orK_b, Vi.notK_b, Vi.ev_and, Vi.ev_or, Vi.ev_not, Vi.isB_b, Vi.ev_ite, Vi.ev_tup, Vi.ev_lst, Vi.ev_ix, Vi.ev_slc, Vi.evP_no, Vi.evP_yes, Vi.ev_call, Vi.calK_some, Vi.calR_ok, Vi.evA_nil, Vi.evA_e, Vi.evA_o, Vi.args_nil, Vi.args_e, Vi.args_o, Vi.argK_s, Vi.asm_nil, Vi.asm_e, Vi.asm_o, Vi.asmK_s, Vi.lent_ol, Vi.lent_sc, Vi.lent_fz, Vi.put_nil, Vi.put_e, Vi.put_o, Vi.ev_blt, Vi.ev_isi, Vi.ev_lsc, Vi.lscK_s, Vi.cmpK_ok, Vi.ev_lc, Vi.evC_no, Vi.evC_yes, Vi.evI_e, Vi.evI_r1, Vi.evI_r2, Vi.evs_nil, Vi.evs_cons, Vi.evO_nil, Vi.evO_cons, Vi.olO_s, Vi.olOf_c, Vi.appK_s, Vi.appK2_s, Vi.ev_app, Vi.ev_mt, Vi.evT_mt, Vi.appNK_s, Vi.ev_appN, Vi.inOf_c, Vi.inK_s, Vi.inK2_s, Vi.mvixK_s, Vi.ev_mvix, Vi.ev_rev, Vi.ev_repC, Vi.evT_rev, Vi.evI_en, Vi.evI_rv, Vi.evI_rg, Vi.rgK_s, Vi.asgTK_s, Vi.ex_asgT, Vi.bwsK_nx, Vi.bwsK_ret, Vi.ex_bws, Vi.ex_rais, Vi.tryK_nx, Vi.tryK_ret, Vi.ex_try, Vi.so_ex, Vi.sb_ex, Vi.d_ex, Vi.runK_ex, Vi.calR_ex, Vi.keepE, Vi.cloF, Vi.closedR, Vi.bwK_ok, Vi.ev_bw, Vi.bwK'_ok, Vi.evT_bw, Vi.evT_chain, Vi.evT_one, Vi.evT_and, Vi.evT_or, Vi.evT_not, Vi.evT_var, Vi.evT_call, Vi.evT_isi, Vi.evT_blt, Vi.evT_ix, Vi.evT_bin, Vi.evT_bl, Vi.ex_pass, Vi.ex_asg, Vi.ex_expr, Vi.ex_ret, Vi.ex_retN, Vi.ex_if, Vi.ex_for, Vi.setK_s, Vi.setK2_s, Vi.setK3_s, Vi.ex_set, Vi.ex_aug, Vi.ex_augS, Vi.augM, Vi.augSM, Vi.exs_nil, Vi.exs_cons, Vi.run_b, Vi.runK_ret, Vi.runK_nx, Vi.frzE_nil, Vi.frz_cons, Vi.frzK_ol, Vi.frzK2_s, Vi.frzK_fz, Vi.frzK_no, Vi.frzK_olI, Vi.rdV_olI, Vi.mvV_olI, Vi.olO_olI, Vi.lent_olI, Vi.closed_olI, Vi.dOf_fz, Vi.dOf_olI, Vi.dOf_olI', Vi.dsOf_fz, Vi.dsOf_ints, Vi.dsOf_nil, Vi.dsOf_cons, Option.map_some, Vi.binD, Vi.add_int, Vi.sub_int, Vi.cmpD, Vi.lt_int, Vi.le_int, Vi.gt_int, Vi.ge_int, Vi.neg_int, Vi.bf_len_l, Vi.bf_len_t, Vi.bf_len_s, Vi.bf_abs, Vi.bf_int, Vi.bf_intb, Vi.bf_max2, Vi.bf_min2, Vi.bf_list_l, Vi.bf_list_t, Vi.bf_tup_l, Vi.bf_sum, Vi.ix_l, Vi.ix_t, Vi.isiD, Vi.chain2_eq, Vi.chainK_b, Vi.iop_add, Vi.iop_sub, Vi.it_l, Vi.it_t, Vi.lentOk, Vi.outs_nil, Vi.outs_fz, Vi.outs_c, List.tail_cons, Vi.killE, Vi.noOwn, Vi.closed, Vi.closeds, Vi.closedD, Vi.closeds_ints, Vi.wipeE, Vi.resE, Vi.bd_nm, Vi.bd_tp, Vi.bdN, Vi.bdT, Vi.bdsN, Vi.bdNil, Vi.bdCons, Vi.Tg.js, Vi.partM, Vi.eq_int, Vi.eq_str, Vi.eq_bool, Vi.eq_ints])⟩
        | false => exact ⟨by simp, Or.inr (by simp -implicitDefEqProofs [Vi.bind_ok, Vi.bind_bad, Vi.bind_ex, Vi.so_ok, Vi.sb_nx, Vi.sb_ret, Vi.sb_bad, Vi.d_fz, Vi.d_olI, Vi.d_ol, Vi.o_some, Vi.tst_b, Vi.tst_i, Vi.tst_l, Vi.tst_s, Vi.tst_n, Vi.oB_some, Vi.oP_some, Vi.oL_some, Vi.rdV_fz, Vi.rdV_ol, Vi.rdV2_some, Vi.mvV_ol, Vi.mvV_fz, Vi.rdVar_c, Vi.ev_var, Vi.ev_mv, Vi.ev_int, Vi.ev_bl, Vi.ev_non, Vi.ev_str, Vi.ev_gi, Vi.ev_gs, Vi.ev_bin, Vi.ev_neg, Vi.ev_cmp, Vi.evT_cmp, Vi.ev_chain, Vi.ev_one, Vi.andK_b, Vi.orK_b, Vi.notK_b, Vi.ev_and, Vi.ev_or, Vi.ev_not, Vi.isB_b, Vi.ev_ite, Vi.ev_tup, Vi.ev_lst, Vi.ev_ix, Vi.ev_slc, Vi.evP_no, Vi.evP_yes, Vi.ev_call, Vi.calK_some, Vi.calR_ok, Vi.evA_nil, Vi.evA_e, Vi.evA_o, Vi.args_nil, Vi.args_e, Vi.args_o, Vi.argK_s, Vi.asm_nil, Vi.asm_e, Vi.asm_o, Vi.asmK_s, Vi.lent_ol, Vi.lent_sc, Vi.lent_fz, Vi.put_nil, Vi.put_e, Vi.put_o, Vi.ev_blt, Vi.ev_isi, Vi.ev_lsc, Vi.lscK_s, Vi.cmpK_ok, Vi.ev_lc, Vi.evC_no, Vi.evC_yes, Vi.evI_e, Vi.evI_r1, Vi.evI_r2, Vi.evs_nil, Vi.evs_cons, Vi.evO_nil, Vi.evO_cons, Vi.olO_s, Vi.olOf_c, Vi.appK_s, Vi.appK2_s, Vi.ev_app, Vi.ev_mt, Vi.evT_mt, Vi.appNK_s, Vi.ev_appN, Vi.inOf_c, Vi.inK_s, Vi.inK2_s, Vi.mvixK_s, Vi.ev_mvix, Vi.ev_rev, Vi.ev_repC, Vi.evT_rev, Vi.evI_en, Vi.evI_rv, Vi.evI_rg, Vi.rgK_s, Vi.asgTK_s, Vi.ex_asgT, Vi.bwsK_nx, Vi.bwsK_ret, Vi.ex_bws, Vi.ex_rais, Vi.tryK_nx, Vi.tryK_ret, Vi.ex_try, Vi.so_ex, Vi.sb_ex, Vi.d_ex, Vi.runK_ex, Vi.calR_ex, Vi.keepE, Vi.cloF, Vi.closedR, Vi.bwK_ok, Vi.ev_bw, Vi.bwK'_ok, Vi.evT_bw, Vi.evT_chain, Vi.evT_one, Vi.evT_and, Vi.evT_or, Vi.evT_not, Vi.evT_var, Vi.evT_call, Vi.evT_isi, Vi.evT_blt, Vi.evT_ix, Vi.evT_bin, Vi.evT_bl, Vi.ex_pass, Vi.ex_asg, Vi.ex_expr, Vi.ex_ret, Vi.ex_retN, Vi.ex_if, Vi.ex_for, Vi.setK_s, Vi.setK2_s, Vi.setK3_s, Vi.ex_set, Vi.ex_aug, Vi.ex_augS, Vi.augM, Vi.augSM, Vi.exs_nil, Vi.exs_cons, Vi.run_b, Vi.runK_ret, Vi.runK_nx, Vi.frzE_nil, Vi.frz_cons, Vi.frzK_ol, Vi.frzK2_s, Vi.frzK_fz, Vi.frzK_no, Vi.frzK_olI, Vi.rdV_olI, Vi.mvV_olI, Vi.olO_olI, Vi.lent_olI, Vi.closed_olI, Vi.dOf_fz, Vi.dOf_olI, Vi.dOf_olI', Vi.dsOf_fz, Vi.dsOf_ints, Vi.dsOf_nil, Vi.dsOf_cons, Option.map_some, Vi.binD, Vi.add_int, Vi.sub_int, Vi.cmpD, Vi.lt_int, Vi.le_int, Vi.gt_int, Vi.ge_int, Vi.neg_int, Vi.bf_len_l, Vi.bf_len_t, Vi.bf_len_s, Vi.bf_abs, Vi.bf_int, Vi.bf_intb, Vi.bf_max2, Vi.bf_min2, Vi.bf_list_l, Vi.bf_list_t, Vi.bf_tup_l, Vi.bf_sum, Vi.ix_l, Vi.ix_t, Vi.isiD, Vi.chain2_eq, Vi.chainK_b, Vi.iop_add, Vi.iop_sub, Vi.it_l, Vi.it_t, Vi.lentOk, Vi.outs_nil, Vi.outs_fz, Vi.outs_c, List.tail_cons, Vi.killE, Vi.noOwn, Vi.closed, Vi.closeds, Vi.closedD, Vi.closeds_ints, Vi.wipeE, Vi.resE, Vi.bd_nm, Vi.bd_tp, Vi.bdN, Vi.bdT, Vi.bdsN, Vi.bdNil, Vi.bdCons, Vi.Tg.js, Vi.partM, Vi.eq_int, Vi.eq_str, Vi.eq_bool, Vi.eq_ints])⟩)
  rw [h1]
  rw [List.nil_append] at h3 h4
  rw [List.nil_append] at h3
  rcases h4 with ⟨h4, _⟩ | h4
  · have : (upF 1 l.length).length = 0 := by rw [h4]; rfl
    simp [upF] at this; omega
  · rw [h3, h4]; rfl
theorem told_loop {o : Option OV} {s6 s8 : Option OV} : ∃ y6 y8 : Option OV, forL (bdG (.nm 6)) (exs rho__law_right [0] b__law_right_9) ((rgI 0 2).map .int) [o, some (.fz (tx l)), some (.fz (.int (l.length : Nat))), some (.fz (iL (nearL l))), some (.fz (.int (leastV l : Nat))), some (iO (brkL l)), s6, none, s8, none] = .nx [o, some (.fz (tx l)), some (.fz (.int (l.length : Nat))), some (.fz (iL (nearL l))), some (.fz (.int (leastV l : Nat))), some (iO (brkL l)), y6, none, y8, none] := by
  obtain ⟨env, h1, y6, y8, rfl⟩ := forL_inv (bd := bdG (.nm 6)) (mb := exs rho__law_right [0] b__law_right_9) (g := PyData.int) (fun _ env => ∃ y6 y8 : Option OV, env = [o, some (.fz (tx l)), some (.fz (.int (l.length : Nat))), some (.fz (iL (nearL l))), some (.fz (.int (leastV l : Nat))), some (iO (brkL l)), y6, none, y8, none]) (rgI 0 2) [] [o, some (.fz (tx l)), some (.fz (.int (l.length : Nat))), some (.fz (iL (nearL l))), some (.fz (.int (leastV l : Nat))), some (iO (brkL l)), s6, none, s8, none] ⟨s6, s8, rfl⟩
    (by
      rintro d x r env he ⟨y6, y8, rfl⟩
      have t1 := ok_nears hl (by omega)
      have t2 := ok_breaks hl (by omega)
      have nl := near_len (l := l)
      have bl := brk_len (l := l)
      have sm := same2 (a := nearL l) (b := brkL l) (by omega) (by omega)
      have sz : 1000 < sizeLine := by decide
      have sz2 : 2 ≤ sizeLine := by omega
      have z1 : (nearL l).length < sizeLine := by omega
      have z2 : (brkL l).length < sizeLine := by omega
      generalize (leastV l : Int) = B
      generalize (l.length : Int) = n
      generalize nearL l = NL at t1 sm z1 ⊢
      generalize brkL l = BL at t2 sm z2 ⊢
      have d1 := dOf_map (g := fun i : Nat => PyData.int (i : Nat)) (l := NL)
      have d2 := dOf_map (g := fun i : Nat => PyData.int (i : Nat)) (l := BL)
      refine ⟨[o, some (.fz (tx l)), some (.fz (.int n)), some (.fz (iL NL)), some (.fz (.int B)), some (iO BL), some (.fz (.int x)), none, y8, none], _, by simp -implicitDefEqProofs [Vi.bind_ok, Vi.bind_bad, Vi.bind_ex, Vi.so_ok, Vi.sb_nx, Vi.sb_ret, Vi.sb_bad, Vi.d_fz, Vi.d_olI, Vi.d_ol, Vi.o_some, Vi.tst_b, Vi.tst_i, Vi.tst_l, Vi.tst_s, Vi.tst_n, Vi.oB_some, Vi.oP_some, Vi.oL_some, Vi.rdV_fz, Vi.rdV_ol, Vi.rdV2_some, Vi.mvV_ol, Vi.mvV_fz, Vi.rdVar_c, Vi.ev_var, Vi.ev_mv, Vi.ev_int, Vi.ev_bl, Vi.ev_non, Vi.ev_str, Vi.ev_gi, Vi.ev_gs, Vi.ev_bin, Vi.ev_neg, Vi.ev_cmp, Vi.evT_cmp, Vi.ev_chain, Vi.ev_one, Vi.andK_b, Vi.orK_b, Vi.notK_b, Vi.ev_and, Vi.ev_or, Vi.ev_not, Vi.isB_b, Vi.ev_ite, Vi.ev_tup, Vi.ev_lst, Vi.ev_ix, Vi.ev_slc, Vi.evP_no, Vi.evP_yes, Vi.ev_call, Vi.calK_some, Vi.calR_ok, Vi.evA_nil, Vi.evA_e, Vi.evA_o, Vi.args_nil, Vi.args_e, Vi.args_o, Vi.argK_s, Vi.asm_nil, Vi.asm_e, Vi.asm_o, Vi.asmK_s, Vi.lent_ol, Vi.lent_sc, Vi.lent_fz, Vi.put_nil, Vi.put_e, Vi.put_o, Vi.ev_blt, Vi.ev_isi, Vi.ev_lsc, Vi.lscK_s, Vi.cmpK_ok, Vi.ev_lc, Vi.evC_no, Vi.evC_yes, Vi.evI_e, Vi.evI_r1, Vi.evI_r2, Vi.evs_nil, Vi.evs_cons, Vi.evO_nil, Vi.evO_cons, Vi.olO_s, Vi.olOf_c, Vi.appK_s, Vi.appK2_s, Vi.ev_app, Vi.ev_mt, Vi.evT_mt, Vi.appNK_s, Vi.ev_appN, Vi.inOf_c, Vi.inK_s, Vi.inK2_s, Vi.mvixK_s, Vi.ev_mvix, Vi.ev_rev, Vi.ev_repC, Vi.evT_rev, Vi.evI_en, Vi.evI_rv, Vi.evI_rg, Vi.rgK_s, Vi.asgTK_s, Vi.ex_asgT, Vi.bwsK_nx, Vi.bwsK_ret, Vi.ex_bws, Vi.ex_rais, Vi.tryK_nx, Vi.tryK_ret, Vi.ex_try, Vi.so_ex, Vi.sb_ex, Vi.d_ex, Vi.runK_ex, Vi.calR_ex, Vi.keepE, Vi.cloF, Vi.closedR, Vi.bwK_ok, Vi.ev_bw, Vi.bwK'_ok, Vi.evT_bw, Vi.evT_chain, Vi.evT_one, Vi.evT_and, Vi.evT_or, Vi.evT_not, Vi.evT_var, Vi.evT_call, Vi.evT_isi, Vi.evT_blt, Vi.evT_ix, Vi.evT_bin, Vi.evT_bl, Vi.ex_pass, Vi.ex_asg, Vi.ex_expr, Vi.ex_ret, Vi.ex_retN, Vi.ex_if, Vi.ex_for, Vi.setK_s, Vi.setK2_s, Vi.setK3_s, Vi.ex_set, Vi.ex_aug, Vi.ex_augS, Vi.augM, Vi.augSM, Vi.exs_nil, Vi.exs_cons, Vi.run_b, Vi.runK_ret, Vi.runK_nx, Vi.frzE_nil, Vi.frz_cons, Vi.frzK_ol, Vi.frzK2_s, Vi.frzK_fz, Vi.frzK_no, Vi.frzK_olI, Vi.rdV_olI, Vi.mvV_olI, Vi.olO_olI, Vi.lent_olI, Vi.closed_olI, Vi.dOf_fz, Vi.dOf_olI, Vi.dOf_olI', Vi.dsOf_fz, Vi.dsOf_ints, Vi.dsOf_nil, Vi.dsOf_cons, Option.map_some, Vi.binD, Vi.add_int, Vi.sub_int, Vi.cmpD, Vi.lt_int, Vi.le_int, Vi.gt_int, Vi.ge_int, Vi.neg_int, Vi.bf_len_l, Vi.bf_len_t, Vi.bf_len_s, Vi.bf_abs, Vi.bf_int, Vi.bf_intb, Vi.bf_max2, Vi.bf_min2, Vi.bf_list_l, Vi.bf_list_t, Vi.bf_tup_l, Vi.bf_sum, Vi.ix_l, Vi.ix_t, Vi.isiD, Vi.chain2_eq, Vi.chainK_b, Vi.iop_add, Vi.iop_sub, Vi.it_l, Vi.it_t, Vi.lentOk, Vi.outs_nil, Vi.outs_fz, Vi.outs_c, List.tail_cons, Vi.killE, Vi.noOwn, Vi.closed, Vi.closeds, Vi.closedD, Vi.closeds_ints, Vi.wipeE, Vi.resE, Vi.bd_nm, Vi.bd_tp, Vi.bdN, Vi.bdT, Vi.bdsN, Vi.bdNil, Vi.bdCons, Vi.Tg.js, Vi.partM, Vi.eq_int, Vi.eq_str, Vi.eq_bool, Vi.eq_ints], ?_, some (.fz (.int x)), some (.ol [.ol ((NL.map fun i => OV.fz (.int (i : Nat))) ++ [.fz (.int 0)]), .ol ((BL.map fun i => OV.fz (.int (i : Nat))) ++ [.fz (.int 0)])]), rfl⟩
      simp -implicitDefEqProofs [b__law_right_9, b__law_right_8, b__law_right_7, b__law_right_6, Vi.bind_ok, Vi.bind_bad, Vi.bind_ex, Vi.so_ok, Vi.sb_nx, Vi.sb_ret, Vi.sb_bad, Vi.d_fz, Vi.d_olI, Vi.d_ol, Vi.o_some, Vi.tst_b, Vi.tst_i, Vi.tst_l, Vi.tst_s, Vi.tst_n, Vi.oB_some, Vi.oP_some, Vi.oL_some, Vi.rdV_fz, Vi.rdV_ol, Vi.rdV2_some, Vi.mvV_ol, Vi.mvV_fz, Vi.rdVar_c, Vi.ev_var, Vi.ev_mv, Vi.ev_int, Vi.ev_bl, Vi.ev_non, Vi.ev_str, Vi.ev_gi, Vi.ev_gs, Vi.ev_bin, Vi.ev_neg, Vi.ev_cmp, Vi.evT_cmp, Vi.ev_chain, Vi.ev_one, Vi.andK_b, Vi.orK_b, Vi.notK_b, Vi.ev_and, Vi.ev_or, Vi.ev_not, Vi.isB_b, Vi.ev_ite, Vi.ev_tup, Vi.ev_lst, Vi.ev_ix, Vi.ev_slc, Vi.evP_no, Vi.evP_yes, Vi.ev_call, Vi.calK_some, Vi.calR_ok, Vi.evA_nil, Vi.evA_e, Vi.evA_o, Vi.args_nil, Vi.args_e, Vi.args_o, Vi.argK_s, Vi.asm_nil, Vi.asm_e, Vi.asm_o, Vi.asmK_s, Vi.lent_ol, Vi.lent_sc, Vi.lent_fz, Vi.put_nil, Vi.put_e, Vi.put_o, Vi.ev_blt, Vi.ev_isi, Vi.ev_lsc, Vi.lscK_s, Vi.cmpK_ok, Vi.ev_lc, Vi.evC_no, Vi.evC_yes, Vi.evI_e, Vi.evI_r1, Vi.evI_r2, Vi.evs_nil, Vi.evs_cons, Vi.evO_nil, Vi.evO_cons, Vi.olO_s, Vi.olOf_c, Vi.appK_s, Vi.appK2_s, Vi.ev_app, Vi.ev_mt, Vi.evT_mt, Vi.appNK_s, Vi.ev_appN, Vi.inOf_c, Vi.inK_s, Vi.inK2_s, Vi.mvixK_s, Vi.ev_mvix, Vi.ev_rev, Vi.ev_repC, Vi.evT_rev, Vi.evI_en, Vi.evI_rv, Vi.evI_rg, Vi.rgK_s, Vi.asgTK_s, Vi.ex_asgT, Vi.bwsK_nx, Vi.bwsK_ret, Vi.ex_bws, Vi.ex_rais, Vi.tryK_nx, Vi.tryK_ret, Vi.ex_try, Vi.so_ex, Vi.sb_ex, Vi.d_ex, Vi.runK_ex, Vi.calR_ex, Vi.keepE, Vi.cloF, Vi.closedR, Vi.bwK_ok, Vi.ev_bw, Vi.bwK'_ok, Vi.evT_bw, Vi.evT_chain, Vi.evT_one, Vi.evT_and, Vi.evT_or, Vi.evT_not, Vi.evT_var, Vi.evT_call, Vi.evT_isi, Vi.evT_blt, Vi.evT_ix, Vi.evT_bin, Vi.evT_bl, Vi.ex_pass, Vi.ex_asg, Vi.ex_expr, Vi.ex_ret, Vi.ex_retN, Vi.ex_if, Vi.ex_for, Vi.setK_s, Vi.setK2_s, Vi.setK3_s, Vi.ex_set, Vi.ex_aug, Vi.ex_augS, Vi.augM, Vi.augSM, Vi.exs_nil, Vi.exs_cons, Vi.run_b, Vi.runK_ret, Vi.runK_nx, Vi.frzE_nil, Vi.frz_cons, Vi.frzK_ol, Vi.frzK2_s, Vi.frzK_fz, Vi.frzK_no, Vi.frzK_olI, Vi.rdV_olI, Vi.mvV_olI, Vi.olO_olI, Vi.lent_olI, Vi.closed_olI, Vi.dOf_fz, Vi.dOf_olI, Vi.dOf_olI', Vi.dsOf_fz, Vi.dsOf_ints, Vi.dsOf_nil, Vi.dsOf_cons, Option.map_some, Vi.binD, Vi.add_int, Vi.sub_int, Vi.cmpD, Vi.lt_int, Vi.le_int, Vi.gt_int, Vi.ge_int, Vi.neg_int, Vi.bf_len_l, Vi.bf_len_t, Vi.bf_len_s, Vi.bf_abs, Vi.bf_int, Vi.bf_intb, Vi.bf_max2, Vi.bf_min2, Vi.bf_list_l, Vi.bf_list_t, Vi.bf_tup_l, Vi.bf_sum, Vi.ix_l, Vi.ix_t, Vi.isiD, Vi.chain2_eq, Vi.chainK_b, Vi.iop_add, Vi.iop_sub, Vi.it_l, Vi.it_t, Vi.lentOk, Vi.outs_nil, Vi.outs_fz, Vi.outs_c, List.tail_cons, Vi.killE, Vi.noOwn, Vi.closed, Vi.closeds, Vi.closedD, Vi.closeds_ints, Vi.wipeE, Vi.resE, Vi.bd_nm, Vi.bd_tp, Vi.bdN, Vi.bdT, Vi.bdsN, Vi.bdNil, Vi.bdCons, Vi.Tg.js, Vi.partM, Vi.eq_int, Vi.eq_str, Vi.eq_bool, Vi.eq_ints, rho__law_right, t1, t2, iO, iL, dsOf_map, dsOf_comp, d1, d2, sm, sz2, z1, z2])
  exact ⟨y6, y8, h1⟩
theorem near_loop {o : Option OV} {s5 s6 s8 : Option OV} {k1 k2 k3 : Nat} (g1 : 1 ≤ k1 ∧ k1 < l.length) (g2 : 1 ≤ k2 ∧ k2 < l.length) (g3 : 1 ≤ k3 ∧ k3 < l.length) : ∃ y7 : Option OV, forL (bdG (.nm 7)) (exs rho__law_right [0] b__law_right_4) [.int (k1 : Nat), .int (k2 : Nat), .int (k3 : Nat)] [o, some (.fz (tx l)), some (.fz (.int (l.length : Nat))), some (.fz (iL (nearL l))), some (.fz (.int (leastV l : Nat))), s5, s6, none, s8, none] = .nx [o, some (.fz (tx l)), some (.fz (.int (l.length : Nat))), some (.fz (iL (nearL l))), some (.fz (.int (leastV l : Nat))), s5, s6, y7, s8, none] := by
  obtain ⟨env, h1, y7, rfl⟩ := forL_inv (bd := bdG (.nm 7)) (mb := exs rho__law_right [0] b__law_right_4) (g := fun i : Nat => .int (i : Nat)) (fun _ env => ∃ y7 : Option OV, env = [o, some (.fz (tx l)), some (.fz (.int (l.length : Nat))), some (.fz (iL (nearL l))), some (.fz (.int (leastV l : Nat))), s5, s6, y7, s8, none]) [k1, k2, k3] [] [o, some (.fz (tx l)), some (.fz (.int (l.length : Nat))), some (.fz (iL (nearL l))), some (.fz (.int (leastV l : Nat))), s5, s6, none, s8, none] ⟨none, rfl⟩
    (by
      rintro d x r env he ⟨y7, rfl⟩
      have hx : x ∈ [k1, k2, k3] := by rw [← List.nil_append [k1, k2, k3], ← he]; simp
      have hx : 1 ≤ x ∧ x < l.length := by
        simp only [List.mem_cons, List.not_mem_nil, or_false] at hx
        rcases hx with rfl | rfl | rfl <;> assumption
      have t := ok_near hl (by omega) (show x ≤ l.length by omega)
      have na := near_at (l := l) hx.1 hx.2
      have sm := sameI (nearV l x : Nat)
      generalize (nearV l x : Int) = A at t na sm
      generalize (leastV l : Int) = B
      generalize (l.length : Int) = n
      generalize nearL l = NL at na ⊢
      refine ⟨[o, some (.fz (tx l)), some (.fz (.int n)), some (.fz (iL NL)), some (.fz (.int B)), s5, s6, some (.fz (.int (x : Nat))), s8, none], _, by simp -implicitDefEqProofs [Vi.bind_ok, Vi.bind_bad, Vi.bind_ex, Vi.so_ok, Vi.sb_nx, Vi.sb_ret, Vi.sb_bad, Vi.d_fz, Vi.d_olI, Vi.d_ol, Vi.o_some, Vi.tst_b, Vi.tst_i, Vi.tst_l, Vi.tst_s, Vi.tst_n, Vi.oB_some, Vi.oP_some, Vi.oL_some, Vi.rdV_fz, Vi.rdV_ol, Vi.rdV2_some, Vi.mvV_ol, Vi.mvV_fz, Vi.rdVar_c, Vi.ev_var, Vi.ev_mv, Vi.ev_int, Vi.ev_bl, Vi.ev_non, Vi.ev_str, Vi.ev_gi, Vi.ev_gs, Vi.ev_bin, Vi.ev_neg, Vi.ev_cmp, Vi.evT_cmp, Vi.ev_chain, Vi.ev_one, Vi.andK_b, Vi.orK_b, Vi.notK_b, Vi.ev_and, Vi.ev_or, Vi.ev_not, Vi.isB_b, Vi.ev_ite, Vi.ev_tup, Vi.ev_lst, Vi.ev_ix, Vi.ev_slc, Vi.evP_no, Vi.evP_yes, Vi.ev_call, Vi.calK_some, Vi.calR_ok, Vi.evA_nil, Vi.evA_e, Vi.evA_o, Vi.args_nil, Vi.args_e, Vi.args_o, Vi.argK_s, Vi.asm_nil, Vi.asm_e, Vi.asm_o, Vi.asmK_s, Vi.lent_ol, Vi.lent_sc, Vi.lent_fz, Vi.put_nil, Vi.put_e, Vi.put_o, Vi.ev_blt, Vi.ev_isi, Vi.ev_lsc, Vi.lscK_s, Vi.cmpK_ok, Vi.ev_lc, Vi.evC_no, Vi.evC_yes, Vi.evI_e, Vi.evI_r1, Vi.evI_r2, Vi.evs_nil, Vi.evs_cons, Vi.evO_nil, Vi.evO_cons, Vi.olO_s, Vi.olOf_c, Vi.appK_s, Vi.appK2_s, Vi.ev_app, Vi.ev_mt, Vi.evT_mt, Vi.appNK_s, Vi.ev_appN, Vi.inOf_c, Vi.inK_s, Vi.inK2_s, Vi.mvixK_s, Vi.ev_mvix, Vi.ev_rev, Vi.ev_repC, Vi.evT_rev, Vi.evI_en, Vi.evI_rv, Vi.evI_rg, Vi.rgK_s, Vi.asgTK_s, Vi.ex_asgT, Vi.bwsK_nx, Vi.bwsK_ret, Vi.ex_bws, Vi.ex_rais, Vi.tryK_nx, Vi.tryK_ret, Vi.ex_try, Vi.so_ex, Vi.sb_ex, Vi.d_ex, Vi.runK_ex, Vi.calR_ex, Vi.keepE, Vi.cloF, Vi.closedR, Vi.bwK_ok, Vi.ev_bw, Vi.bwK'_ok, Vi.evT_bw, Vi.evT_chain, Vi.evT_one, Vi.evT_and, Vi.evT_or, Vi.evT_not, Vi.evT_var, Vi.evT_call, Vi.evT_isi, Vi.evT_blt, Vi.evT_ix, Vi.evT_bin, Vi.evT_bl, Vi.ex_pass, Vi.ex_asg, Vi.ex_expr, Vi.ex_ret, Vi.ex_retN, Vi.ex_if, Vi.ex_for, Vi.setK_s, Vi.setK2_s, Vi.setK3_s, Vi.ex_set, Vi.ex_aug, Vi.ex_augS, Vi.augM, Vi.augSM, Vi.exs_nil, Vi.exs_cons, Vi.run_b, Vi.runK_ret, Vi.runK_nx, Vi.frzE_nil, Vi.frz_cons, Vi.frzK_ol, Vi.frzK2_s, Vi.frzK_fz, Vi.frzK_no, Vi.frzK_olI, Vi.rdV_olI, Vi.mvV_olI, Vi.olO_olI, Vi.lent_olI, Vi.closed_olI, Vi.dOf_fz, Vi.dOf_olI, Vi.dOf_olI', Vi.dsOf_fz, Vi.dsOf_ints, Vi.dsOf_nil, Vi.dsOf_cons, Option.map_some, Vi.binD, Vi.add_int, Vi.sub_int, Vi.cmpD, Vi.lt_int, Vi.le_int, Vi.gt_int, Vi.ge_int, Vi.neg_int, Vi.bf_len_l, Vi.bf_len_t, Vi.bf_len_s, Vi.bf_abs, Vi.bf_int, Vi.bf_intb, Vi.bf_max2, Vi.bf_min2, Vi.bf_list_l, Vi.bf_list_t, Vi.bf_tup_l, Vi.bf_sum, Vi.ix_l, Vi.ix_t, Vi.isiD, Vi.chain2_eq, Vi.chainK_b, Vi.iop_add, Vi.iop_sub, Vi.it_l, Vi.it_t, Vi.lentOk, Vi.outs_nil, Vi.outs_fz, Vi.outs_c, List.tail_cons, Vi.killE, Vi.noOwn, Vi.closed, Vi.closeds, Vi.closedD, Vi.closeds_ints, Vi.wipeE, Vi.resE, Vi.bd_nm, Vi.bd_tp, Vi.bdN, Vi.bdT, Vi.bdsN, Vi.bdNil, Vi.bdCons, Vi.Tg.js, Vi.partM, Vi.eq_int, Vi.eq_str, Vi.eq_bool, Vi.eq_ints], ?_, some (.fz (.int (x : Nat))), rfl⟩
      simp -implicitDefEqProofs [b__law_right_4, Vi.bind_ok, Vi.bind_bad, Vi.bind_ex, Vi.so_ok, Vi.sb_nx, Vi.sb_ret, Vi.sb_bad, Vi.d_fz, Vi.d_olI, Vi.d_ol, Vi.o_some, Vi.tst_b, Vi.tst_i, Vi.tst_l, Vi.tst_s, Vi.tst_n, Vi.oB_some, Vi.oP_some, Vi.oL_some, Vi.rdV_fz, Vi.rdV_ol, Vi.rdV2_some, Vi.mvV_ol, Vi.mvV_fz, Vi.rdVar_c, Vi.ev_var, Vi.ev_mv, Vi.ev_int, Vi.ev_bl, Vi.ev_non, Vi.ev_str, Vi.ev_gi, Vi.ev_gs, Vi.ev_bin, Vi.ev_neg, Vi.ev_cmp, Vi.evT_cmp, Vi.ev_chain, Vi.ev_one, Vi.andK_b, Vi.orK_b, Vi.notK_b, Vi.ev_and, Vi.ev_or, Vi.ev_not, Vi.isB_b, Vi.ev_ite, Vi.ev_tup, Vi.ev_lst, Vi.ev_ix, Vi.ev_slc, Vi.evP_no, Vi.evP_yes, Vi.ev_call, Vi.calK_some, Vi.calR_ok, Vi.evA_nil, Vi.evA_e, Vi.evA_o, Vi.args_nil, Vi.args_e, Vi.args_o, Vi.argK_s, Vi.asm_nil, Vi.asm_e, Vi.asm_o, Vi.asmK_s, Vi.lent_ol, Vi.lent_sc, Vi.lent_fz, Vi.put_nil, Vi.put_e, Vi.put_o, Vi.ev_blt, Vi.ev_isi, Vi.ev_lsc, Vi.lscK_s, Vi.cmpK_ok, Vi.ev_lc, Vi.evC_no, Vi.evC_yes, Vi.evI_e, Vi.evI_r1, Vi.evI_r2, Vi.evs_nil, Vi.evs_cons, Vi.evO_nil, Vi.evO_cons, Vi.olO_s, Vi.olOf_c, Vi.appK_s, Vi.appK2_s, Vi.ev_app, Vi.ev_mt, Vi.evT_mt, Vi.appNK_s, Vi.ev_appN, Vi.inOf_c, Vi.inK_s, Vi.inK2_s, Vi.mvixK_s, Vi.ev_mvix, Vi.ev_rev, Vi.ev_repC, Vi.evT_rev, Vi.evI_en, Vi.evI_rv, Vi.evI_rg, Vi.rgK_s, Vi.asgTK_s, Vi.ex_asgT, Vi.bwsK_nx, Vi.bwsK_ret, Vi.ex_bws, Vi.ex_rais, Vi.tryK_nx, Vi.tryK_ret, Vi.ex_try, Vi.so_ex, Vi.sb_ex, Vi.d_ex, Vi.runK_ex, Vi.calR_ex, Vi.keepE, Vi.cloF, Vi.closedR, Vi.bwK_ok, Vi.ev_bw, Vi.bwK'_ok, Vi.evT_bw, Vi.evT_chain, Vi.evT_one, Vi.evT_and, Vi.evT_or, Vi.evT_not, Vi.evT_var, Vi.evT_call, Vi.evT_isi, Vi.evT_blt, Vi.evT_ix, Vi.evT_bin, Vi.evT_bl, Vi.ex_pass, Vi.ex_asg, Vi.ex_expr, Vi.ex_ret, Vi.ex_retN, Vi.ex_if, Vi.ex_for, Vi.setK_s, Vi.setK2_s, Vi.setK3_s, Vi.ex_set, Vi.ex_aug, Vi.ex_augS, Vi.augM, Vi.augSM, Vi.exs_nil, Vi.exs_cons, Vi.run_b, Vi.runK_ret, Vi.runK_nx, Vi.frzE_nil, Vi.frz_cons, Vi.frzK_ol, Vi.frzK2_s, Vi.frzK_fz, Vi.frzK_no, Vi.frzK_olI, Vi.rdV_olI, Vi.mvV_olI, Vi.olO_olI, Vi.lent_olI, Vi.closed_olI, Vi.dOf_fz, Vi.dOf_olI, Vi.dOf_olI', Vi.dsOf_fz, Vi.dsOf_ints, Vi.dsOf_nil, Vi.dsOf_cons, Option.map_some, Vi.binD, Vi.add_int, Vi.sub_int, Vi.cmpD, Vi.lt_int, Vi.le_int, Vi.gt_int, Vi.ge_int, Vi.neg_int, Vi.bf_len_l, Vi.bf_len_t, Vi.bf_len_s, Vi.bf_abs, Vi.bf_int, Vi.bf_intb, Vi.bf_max2, Vi.bf_min2, Vi.bf_list_l, Vi.bf_list_t, Vi.bf_tup_l, Vi.bf_sum, Vi.ix_l, Vi.ix_t, Vi.isiD, Vi.chain2_eq, Vi.chainK_b, Vi.iop_add, Vi.iop_sub, Vi.it_l, Vi.it_t, Vi.lentOk, Vi.outs_nil, Vi.outs_fz, Vi.outs_c, List.tail_cons, Vi.killE, Vi.noOwn, Vi.closed, Vi.closeds, Vi.closedD, Vi.closeds_ints, Vi.wipeE, Vi.resE, Vi.bd_nm, Vi.bd_tp, Vi.bdN, Vi.bdT, Vi.bdsN, Vi.bdNil, Vi.bdCons, Vi.Tg.js, Vi.partM, Vi.eq_int, Vi.eq_str, Vi.eq_bool, Vi.eq_ints, rho__law_right, t, iL, na, sm])
  exact ⟨y7, h1⟩
theorem win_loop {o s6 s7 s8 : Option OV} (hq : 1 < leastV l) : ∃ E : Vi.Env, forL (bdG (.nm 9)) (exs rho__law_right [0] b__law_right_1) ((upF 1 (l.length + 2 - leastV l)).map fun i => .int (i : Nat)) [o, some (.fz (tx l)), some (.fz (.int (l.length : Nat))), some (.fz (iL (nearL l))), some (.fz (.int (leastV l : Nat))), some (.fz (iL (brkL l))), s6, s7, s8, none] = .nx (o :: E) := by
  obtain ⟨env, h1, y7, y9, rfl⟩ := forL_inv (bd := bdG (.nm 9)) (mb := exs rho__law_right [0] b__law_right_1) (g := fun i : Nat => .int (i : Nat)) (fun _ env => ∃ y7 y9 : Option OV, env = [o, some (.fz (tx l)), some (.fz (.int (l.length : Nat))), some (.fz (iL (nearL l))), some (.fz (.int (leastV l : Nat))), some (.fz (iL (brkL l))), s6, y7, s8, y9]) (upF 1 (l.length + 2 - leastV l)) [] [o, some (.fz (tx l)), some (.fz (.int (l.length : Nat))), some (.fz (iL (nearL l))), some (.fz (.int (leastV l : Nat))), some (.fz (iL (brkL l))), s6, s7, s8, none] ⟨s7, none, rfl⟩
    (by
      rintro d b r env he ⟨y7, y9, rfl⟩
      have hb : b ∈ upF 1 (l.length + 2 - leastV l) := by rw [← List.nil_append (upF _ _), ← he]; simp
      have hb := mem_upF.mp hb
      have wn := win_ne h2 hb.1 hq (by omega)
      have dsm := fun (q : List Nat) => dsOf_map (g := fun i : Nat => PyData.int (i : Nat)) (l := q)
      generalize brkL l = BL at wn ⊢
      generalize nearL l = NL
      generalize (l.length : Int) = n
      have c : compL (bdG (.nm 7)) (evC rho__law_right (.yes (.chain .LtE .Lt (.var 9) (.var 7) (.bin .Sub (.bin .Add (.var 9) (.var 4)) (.int 1))))) (ev rho__law_right (.var 7)) [7] (BL.map fun i => .int (i : Nat)) [o, some (.fz (tx l)), some (.fz (.int n)), some (.fz (iL NL)), some (.fz (.int (leastV l : Nat))), some (.fz (iL BL)), s6, none, s8, some (.fz (.int (b : Nat)))] = .ok ((BL.filter fun k : Nat => decide ((b : Int) ≤ k ∧ (k : Int) < b + (leastV l : Nat) - 1)).map fun i => .fz (.int (i : Nat))) [o, some (.fz (tx l)), some (.fz (.int n)), some (.fz (iL NL)), some (.fz (.int (leastV l : Nat))), some (.fz (iL BL)), s6, none, s8, some (.fz (.int (b : Nat)))] := by
        refine compL_fm (fun k : Nat => decide ((b : Int) ≤ k ∧ (k : Int) < b + (leastV l : Nat) - 1)) (fun i : Nat => .fz (.int (i : Nat))) _ fun x hx => ?_
        generalize (leastV l : Int) = LV
        refine ⟨[o, some (.fz (tx l)), some (.fz (.int n)), some (.fz (iL NL)), some (.fz (.int LV)), some (.fz (iL BL)), s6, some (.fz (.int (x : Nat))), s8, some (.fz (.int (b : Nat)))], [o, some (.fz (tx l)), some (.fz (.int n)), some (.fz (iL NL)), some (.fz (.int LV)), some (.fz (iL BL)), s6, some (.fz (.int (x : Nat))), s8, some (.fz (.int (b : Nat)))], by simp -implicitDefEqProofs [Vi.bind_ok, Vi.bind_bad, Vi.bind_ex, Vi.so_ok, Vi.sb_nx, Vi.sb_ret, Vi.sb_bad, Vi.d_fz, Vi.d_olI, Vi.d_ol, Vi.o_some, Vi.tst_b, Vi.tst_i, Vi.tst_l, Vi.tst_s, Vi.tst_n, Vi.oB_some, Vi.oP_some, Vi.oL_some, Vi.rdV_fz, Vi.rdV_ol, Vi.rdV2_some, Vi.mvV_ol, Vi.mvV_fz, Vi.rdVar_c, Vi.ev_var, Vi.ev_mv, Vi.ev_int, Vi.ev_bl, Vi.ev_non, Vi.ev_str, Vi.ev_gi, Vi.ev_gs, Vi.ev_bin, Vi.ev_neg, Vi.ev_cmp, Vi.evT_cmp, Vi.ev_chain, Vi.ev_one, Vi.andK_b, Vi.orK_b, Vi.notK_b, Vi.ev_and, Vi.ev_or, Vi.ev_not, Vi.isB_b, Vi.ev_ite, Vi.ev_tup, Vi.ev_lst, Vi.ev_ix, Vi.ev_slc, Vi.evP_no, Vi.evP_yes, Vi.ev_call, Vi.calK_some, Vi.calR_ok, Vi.evA_nil, Vi.evA_e, Vi.evA_o, Vi.args_nil, Vi.args_e, Vi.args_o, Vi.argK_s, Vi.asm_nil, Vi.asm_e, Vi.asm_o, Vi.asmK_s, Vi.lent_ol, Vi.lent_sc, Vi.lent_fz, Vi.put_nil, Vi.put_e, Vi.put_o, Vi.ev_blt, Vi.ev_isi, Vi.ev_lsc, Vi.lscK_s, Vi.cmpK_ok, Vi.ev_lc, Vi.evC_no, Vi.evC_yes, Vi.evI_e, Vi.evI_r1, Vi.evI_r2, Vi.evs_nil, Vi.evs_cons, Vi.evO_nil, Vi.evO_cons, Vi.olO_s, Vi.olOf_c, Vi.appK_s, Vi.appK2_s, Vi.ev_app, Vi.ev_mt, Vi.evT_mt, Vi.appNK_s, Vi.ev_appN, Vi.inOf_c, Vi.inK_s, Vi.inK2_s, Vi.mvixK_s, Vi.ev_mvix, Vi.ev_rev, Vi.ev_repC, Vi.evT_rev, Vi.evI_en, Vi.evI_rv, Vi.evI_rg, Vi.rgK_s, Vi.asgTK_s, Vi.ex_asgT, Vi.bwsK_nx, Vi.bwsK_ret, Vi.ex_bws, Vi.ex_rais, Vi.tryK_nx, Vi.tryK_ret, Vi.ex_try, Vi.so_ex, Vi.sb_ex, Vi.d_ex, Vi.runK_ex, Vi.calR_ex, Vi.keepE, Vi.cloF, Vi.closedR, Vi.bwK_ok, Vi.ev_bw, Vi.bwK'_ok, Vi.evT_bw, Vi.evT_chain, Vi.evT_one, Vi.evT_and, Vi.evT_or, Vi.evT_not, Vi.evT_var, Vi.evT_call, Vi.evT_isi, Vi.evT_blt, Vi.evT_ix, Vi.evT_bin, Vi.evT_bl, Vi.ex_pass, Vi.ex_asg, Vi.ex_expr, Vi.ex_ret, Vi.ex_retN, Vi.ex_if, Vi.ex_for, Vi.setK_s, Vi.setK2_s, Vi.setK3_s, Vi.ex_set, Vi.ex_aug, Vi.ex_augS, Vi.augM, Vi.augSM, Vi.exs_nil, Vi.exs_cons, Vi.run_b, Vi.runK_ret, Vi.runK_nx, Vi.frzE_nil, Vi.frz_cons, Vi.frzK_ol, Vi.frzK2_s, Vi.frzK_fz, Vi.frzK_no, Vi.frzK_olI, Vi.rdV_olI, Vi.mvV_olI, Vi.olO_olI, Vi.lent_olI, Vi.closed_olI, Vi.dOf_fz, Vi.dOf_olI, Vi.dOf_olI', Vi.dsOf_fz, Vi.dsOf_ints, Vi.dsOf_nil, Vi.dsOf_cons, Option.map_some, Vi.binD, Vi.add_int, Vi.sub_int, Vi.cmpD, Vi.lt_int, Vi.le_int, Vi.gt_int, Vi.ge_int, Vi.neg_int, Vi.bf_len_l, Vi.bf_len_t, Vi.bf_len_s, Vi.bf_abs, Vi.bf_int, Vi.bf_intb, Vi.bf_max2, Vi.bf_min2, Vi.bf_list_l, Vi.bf_list_t, Vi.bf_tup_l, Vi.bf_sum, Vi.ix_l, Vi.ix_t, Vi.isiD, Vi.chain2_eq, Vi.chainK_b, Vi.iop_add, Vi.iop_sub, Vi.it_l, Vi.it_t, Vi.lentOk, Vi.outs_nil, Vi.outs_fz, Vi.outs_c, List.tail_cons, Vi.killE, Vi.noOwn, Vi.closed, Vi.closeds, Vi.closedD, Vi.closeds_ints, Vi.wipeE, Vi.resE, Vi.bd_nm, Vi.bd_tp, Vi.bdN, Vi.bdT, Vi.bdsN, Vi.bdNil, Vi.bdCons, Vi.Tg.js, Vi.partM, Vi.eq_int, Vi.eq_str, Vi.eq_bool, Vi.eq_ints], ?_, by simp -implicitDefEqProofs [Vi.bind_ok, Vi.bind_bad, Vi.bind_ex, Vi.so_ok, Vi.sb_nx, Vi.sb_ret, Vi.sb_bad, Vi.d_fz, Vi.d_olI, Vi.d_ol, Vi.o_some, Vi.tst_b, Vi.tst_i, Vi.tst_l, Vi.tst_s, Vi.tst_n, Vi.oB_some, Vi.oP_some, Vi.oL_some, Vi.rdV_fz, Vi.rdV_ol, Vi.rdV2_some, Vi.mvV_ol, Vi.mvV_fz, Vi.rdVar_c, Vi.ev_var, Vi.ev_mv, Vi.ev_int, Vi.ev_bl, Vi.ev_non, Vi.ev_str, Vi.ev_gi, Vi.ev_gs, Vi.ev_bin, Vi.ev_neg, Vi.ev_cmp, Vi.evT_cmp, Vi.ev_chain, Vi.ev_one, Vi.andK_b, Vi.orK_b, Vi.notK_b, Vi.ev_and, Vi.ev_or, Vi.ev_not, Vi.isB_b, Vi.ev_ite, Vi.ev_tup, Vi.ev_lst, Vi.ev_ix, Vi.ev_slc, Vi.evP_no, Vi.evP_yes, Vi.ev_call, Vi.calK_some, Vi.calR_ok, Vi.evA_nil, Vi.evA_e, Vi.evA_o, Vi.args_nil, Vi.args_e, Vi.args_o, Vi.argK_s, Vi.asm_nil, Vi.asm_e, Vi.asm_o, Vi.asmK_s, Vi.lent_ol, Vi.lent_sc, Vi.lent_fz, Vi.put_nil, Vi.put_e, Vi.put_o, Vi.ev_blt, Vi.ev_isi, Vi.ev_lsc, Vi.lscK_s, Vi.cmpK_ok, Vi.ev_lc, Vi.evC_no, Vi.evC_yes, Vi.evI_e, Vi.evI_r1, Vi.evI_r2, Vi.evs_nil, Vi.evs_cons, Vi.evO_nil, Vi.evO_cons, Vi.olO_s, Vi.olOf_c, Vi.appK_s, Vi.appK2_s, Vi.ev_app, Vi.ev_mt, Vi.evT_mt, Vi.appNK_s, Vi.ev_appN, Vi.inOf_c, Vi.inK_s, Vi.inK2_s, Vi.mvixK_s, Vi.ev_mvix, Vi.ev_rev, Vi.ev_repC, Vi.evT_rev, Vi.evI_en, Vi.evI_rv, Vi.evI_rg, Vi.rgK_s, Vi.asgTK_s, Vi.ex_asgT, Vi.bwsK_nx, Vi.bwsK_ret, Vi.ex_bws, Vi.ex_rais, Vi.tryK_nx, Vi.tryK_ret, Vi.ex_try, Vi.so_ex, Vi.sb_ex, Vi.d_ex, Vi.runK_ex, Vi.calR_ex, Vi.keepE, Vi.cloF, Vi.closedR, Vi.bwK_ok, Vi.ev_bw, Vi.bwK'_ok, Vi.evT_bw, Vi.evT_chain, Vi.evT_one, Vi.evT_and, Vi.evT_or, Vi.evT_not, Vi.evT_var, Vi.evT_call, Vi.evT_isi, Vi.evT_blt, Vi.evT_ix, Vi.evT_bin, Vi.evT_bl, Vi.ex_pass, Vi.ex_asg, Vi.ex_expr, Vi.ex_ret, Vi.ex_retN, Vi.ex_if, Vi.ex_for, Vi.setK_s, Vi.setK2_s, Vi.setK3_s, Vi.ex_set, Vi.ex_aug, Vi.ex_augS, Vi.augM, Vi.augSM, Vi.exs_nil, Vi.exs_cons, Vi.run_b, Vi.runK_ret, Vi.runK_nx, Vi.frzE_nil, Vi.frz_cons, Vi.frzK_ol, Vi.frzK2_s, Vi.frzK_fz, Vi.frzK_no, Vi.frzK_olI, Vi.rdV_olI, Vi.mvV_olI, Vi.olO_olI, Vi.lent_olI, Vi.closed_olI, Vi.dOf_fz, Vi.dOf_olI, Vi.dOf_olI', Vi.dsOf_fz, Vi.dsOf_ints, Vi.dsOf_nil, Vi.dsOf_cons, Option.map_some, Vi.binD, Vi.add_int, Vi.sub_int, Vi.cmpD, Vi.lt_int, Vi.le_int, Vi.gt_int, Vi.ge_int, Vi.neg_int, Vi.bf_len_l, Vi.bf_len_t, Vi.bf_len_s, Vi.bf_abs, Vi.bf_int, Vi.bf_intb, Vi.bf_max2, Vi.bf_min2, Vi.bf_list_l, Vi.bf_list_t, Vi.bf_tup_l, Vi.bf_sum, Vi.ix_l, Vi.ix_t, Vi.isiD, Vi.chain2_eq, Vi.chainK_b, Vi.iop_add, Vi.iop_sub, Vi.it_l, Vi.it_t, Vi.lentOk, Vi.outs_nil, Vi.outs_fz, Vi.outs_c, List.tail_cons, Vi.killE, Vi.noOwn, Vi.closed, Vi.closeds, Vi.closedD, Vi.closeds_ints, Vi.wipeE, Vi.resE, Vi.bd_nm, Vi.bd_tp, Vi.bdN, Vi.bdT, Vi.bdsN, Vi.bdNil, Vi.bdCons, Vi.Tg.js, Vi.partM, Vi.eq_int, Vi.eq_str, Vi.eq_bool, Vi.eq_ints]⟩
        have f1 := le_int (a := (b : Int)) (b := (x : Int))
        have f2 := lt_int (a := (x : Int)) (b := (b : Int) + LV - 1)
        generalize (b : Int) = B at f1 f2 ⊢
        generalize (x : Int) = X at f1 f2 ⊢
        by_cases c1 : B ≤ X
        · simp -implicitDefEqProofs [Vi.bind_ok, Vi.bind_bad, Vi.bind_ex, Vi.so_ok, Vi.sb_nx, Vi.sb_ret, Vi.sb_bad, Vi.d_fz, Vi.d_olI, Vi.d_ol, Vi.o_some, Vi.tst_b, Vi.tst_i, Vi.tst_l, Vi.tst_s, Vi.tst_n, Vi.oB_some, Vi.oP_some, Vi.oL_some, Vi.rdV_fz, Vi.rdV_ol, Vi.rdV2_some, Vi.mvV_ol, Vi.mvV_fz, Vi.rdVar_c, Vi.ev_var, Vi.ev_mv, Vi.ev_int, Vi.ev_bl, Vi.ev_non, Vi.ev_str, Vi.ev_gi, Vi.ev_gs, Vi.ev_bin, Vi.ev_neg, Vi.ev_cmp, Vi.evT_cmp, Vi.ev_chain, Vi.ev_one, Vi.andK_b, Vi.orK_b, Vi.notK_b, Vi.ev_and, Vi.ev_or, Vi.ev_not, Vi.isB_b, Vi.ev_ite, Vi.ev_tup, Vi.ev_lst, Vi.ev_ix, Vi.ev_slc, Vi.evP_no, Vi.evP_yes, Vi.ev_call, Vi.calK_some, Vi.calR_ok, Vi.evA_nil, Vi.evA_e, Vi.evA_o, Vi.args_nil, Vi.args_e, Vi.args_o, Vi.argK_s, Vi.asm_nil, Vi.asm_e, Vi.asm_o, Vi.asmK_s, Vi.lent_ol, Vi.lent_sc, Vi.lent_fz, Vi.put_nil, Vi.put_e, Vi.put_o, Vi.ev_blt, Vi.ev_isi, Vi.ev_lsc, Vi.lscK_s, Vi.cmpK_ok, Vi.ev_lc, Vi.evC_no, Vi.evC_yes, Vi.evI_e, Vi.evI_r1, Vi.evI_r2, Vi.evs_nil, Vi.evs_cons, Vi.evO_nil, Vi.evO_cons, Vi.olO_s, Vi.olOf_c, Vi.appK_s, Vi.appK2_s, Vi.ev_app, Vi.ev_mt, Vi.evT_mt, Vi.appNK_s, Vi.ev_appN, Vi.inOf_c, Vi.inK_s, Vi.inK2_s, Vi.mvixK_s, Vi.ev_mvix, Vi.ev_rev, Vi.ev_repC, Vi.evT_rev, Vi.evI_en, Vi.evI_rv, Vi.evI_rg, Vi.rgK_s, Vi.asgTK_s, Vi.ex_asgT, Vi.bwsK_nx, Vi.bwsK_ret, Vi.ex_bws, Vi.ex_rais, Vi.tryK_nx, Vi.tryK_ret, Vi.ex_try, Vi.so_ex, Vi.sb_ex, Vi.d_ex, Vi.runK_ex, Vi.calR_ex, Vi.keepE, Vi.cloF, Vi.closedR, Vi.bwK_ok, Vi.ev_bw, Vi.bwK'_ok, Vi.evT_bw, Vi.evT_chain, Vi.evT_one, Vi.evT_and, Vi.evT_or, Vi.evT_not, Vi.evT_var, Vi.evT_call, Vi.evT_isi, Vi.evT_blt, Vi.evT_ix, Vi.evT_bin, Vi.evT_bl, Vi.ex_pass, Vi.ex_asg, Vi.ex_expr, Vi.ex_ret, Vi.ex_retN, Vi.ex_if, Vi.ex_for, Vi.setK_s, Vi.setK2_s, Vi.setK3_s, Vi.ex_set, Vi.ex_aug, Vi.ex_augS, Vi.augM, Vi.augSM, Vi.exs_nil, Vi.exs_cons, Vi.run_b, Vi.runK_ret, Vi.runK_nx, Vi.frzE_nil, Vi.frz_cons, Vi.frzK_ol, Vi.frzK2_s, Vi.frzK_fz, Vi.frzK_no, Vi.frzK_olI, Vi.rdV_olI, Vi.mvV_olI, Vi.olO_olI, Vi.lent_olI, Vi.closed_olI, Vi.dOf_fz, Vi.dOf_olI, Vi.dOf_olI', Vi.dsOf_fz, Vi.dsOf_ints, Vi.dsOf_nil, Vi.dsOf_cons, Option.map_some, Vi.binD, Vi.add_int, Vi.sub_int, Vi.cmpD, Vi.lt_int, Vi.le_int, Vi.gt_int, Vi.ge_int, Vi.neg_int, Vi.bf_len_l, Vi.bf_len_t, Vi.bf_len_s, Vi.bf_abs, Vi.bf_int, Vi.bf_intb, Vi.bf_max2, Vi.bf_min2, Vi.bf_list_l, Vi.bf_list_t, Vi.bf_tup_l, Vi.bf_sum, Vi.ix_l, Vi.ix_t, Vi.isiD, Vi.chain2_eq, Vi.chainK_b, Vi.iop_add, Vi.iop_sub, Vi.it_l, Vi.it_t, Vi.lentOk, Vi.outs_nil, Vi.outs_fz, Vi.outs_c, List.tail_cons, Vi.killE, Vi.noOwn, Vi.closed, Vi.closeds, Vi.closedD, Vi.closeds_ints, Vi.wipeE, Vi.resE, Vi.bd_nm, Vi.bd_tp, Vi.bdN, Vi.bdT, Vi.bdsN, Vi.bdNil, Vi.bdCons, Vi.Tg.js, Vi.partM, Vi.eq_int, Vi.eq_str, Vi.eq_bool, Vi.eq_ints, c1]
        · simp -implicitDefEqProofs [Vi.bind_ok, Vi.bind_bad, Vi.bind_ex, Vi.so_ok, Vi.sb_nx, Vi.sb_ret, Vi.sb_bad, Vi.d_fz, Vi.d_olI, Vi.d_ol, Vi.o_some, Vi.tst_b, Vi.tst_i, Vi.tst_l, Vi.tst_s, Vi.tst_n, Vi.oB_some, Vi.oP_some, Vi.oL_some, Vi.rdV_fz, Vi.rdV_ol, Vi.rdV2_some, Vi.mvV_ol, Vi.mvV_fz, Vi.rdVar_c, Vi.ev_var, Vi.ev_mv, Vi.ev_int, Vi.ev_bl, Vi.ev_non, Vi.ev_str, Vi.ev_gi, Vi.ev_gs, Vi.ev_bin, Vi.ev_neg, Vi.ev_cmp, Vi.evT_cmp, Vi.ev_chain, Vi.ev_one, Vi.andK_b, Vi.orK_b, Vi.notK_b, Vi.ev_and, Vi.ev_or, Vi.ev_not, Vi.isB_b, Vi.ev_ite, Vi.ev_tup, Vi.ev_lst, Vi.ev_ix, Vi.ev_slc, Vi.evP_no, Vi.evP_yes, Vi.ev_call, Vi.calK_some, Vi.calR_ok, Vi.evA_nil, Vi.evA_e, Vi.evA_o, Vi.args_nil, Vi.args_e, Vi.args_o, Vi.argK_s, Vi.asm_nil, Vi.asm_e, Vi.asm_o, Vi.asmK_s, Vi.lent_ol, Vi.lent_sc, Vi.lent_fz, Vi.put_nil, Vi.put_e, Vi.put_o, Vi.ev_blt, Vi.ev_isi, Vi.ev_lsc, Vi.lscK_s, Vi.cmpK_ok, Vi.ev_lc, Vi.evC_no, Vi.evC_yes, Vi.evI_e, Vi.evI_r1, Vi.evI_r2, Vi.evs_nil, Vi.evs_cons, Vi.evO_nil, Vi.evO_cons, Vi.olO_s, Vi.olOf_c, Vi.appK_s, Vi.appK2_s, Vi.ev_app, Vi.ev_mt, Vi.evT_mt, Vi.appNK_s, Vi.ev_appN, Vi.inOf_c, Vi.inK_s, Vi.inK2_s, Vi.mvixK_s, Vi.ev_mvix, Vi.ev_rev, Vi.ev_repC, Vi.evT_rev, Vi.evI_en, Vi.evI_rv, Vi.evI_rg, Vi.rgK_s, Vi.asgTK_s, Vi.ex_asgT, Vi.bwsK_nx, Vi.bwsK_ret, Vi.ex_bws, Vi.ex_rais, Vi.tryK_nx, Vi.tryK_ret, Vi.ex_try, Vi.so_ex, Vi.sb_ex, Vi.d_ex, Vi.runK_ex, Vi.calR_ex, Vi.keepE, Vi.cloF, Vi.closedR, Vi.bwK_ok, Vi.ev_bw, Vi.bwK'_ok, Vi.evT_bw, Vi.evT_chain, Vi.evT_one, Vi.evT_and, Vi.evT_or, Vi.evT_not, Vi.evT_var, Vi.evT_call, Vi.evT_isi, Vi.evT_blt, Vi.evT_ix, Vi.evT_bin, Vi.evT_bl, Vi.ex_pass, Vi.ex_asg, Vi.ex_expr, Vi.ex_ret, Vi.ex_retN, Vi.ex_if, Vi.ex_for, Vi.setK_s, Vi.setK2_s, Vi.setK3_s, Vi.ex_set, Vi.ex_aug, Vi.ex_augS, Vi.augM, Vi.augSM, Vi.exs_nil, Vi.exs_cons, Vi.run_b, Vi.runK_ret, Vi.runK_nx, Vi.frzE_nil, Vi.frz_cons, Vi.frzK_ol, Vi.frzK2_s, Vi.frzK_fz, Vi.frzK_no, Vi.frzK_olI, Vi.rdV_olI, Vi.mvV_olI, Vi.olO_olI, Vi.lent_olI, Vi.closed_olI, Vi.dOf_fz, Vi.dOf_olI, Vi.dOf_olI', Vi.dsOf_fz, Vi.dsOf_ints, Vi.dsOf_nil, Vi.dsOf_cons, Option.map_some, Vi.binD, Vi.add_int, Vi.sub_int, Vi.cmpD, Vi.lt_int, Vi.le_int, Vi.gt_int, Vi.ge_int, Vi.neg_int, Vi.bf_len_l, Vi.bf_len_t, Vi.bf_len_s, Vi.bf_abs, Vi.bf_int, Vi.bf_intb, Vi.bf_max2, Vi.bf_min2, Vi.bf_list_l, Vi.bf_list_t, Vi.bf_tup_l, Vi.bf_sum, Vi.ix_l, Vi.ix_t, Vi.isiD, Vi.chain2_eq, Vi.chainK_b, Vi.iop_add, Vi.iop_sub, Vi.it_l, Vi.it_t, Vi.lentOk, Vi.outs_nil, Vi.outs_fz, Vi.outs_c, List.tail_cons, Vi.killE, Vi.noOwn, Vi.closed, Vi.closeds, Vi.closedD, Vi.closeds_ints, Vi.wipeE, Vi.resE, Vi.bd_nm, Vi.bd_tp, Vi.bdN, Vi.bdT, Vi.bdsN, Vi.bdNil, Vi.bdCons, Vi.Tg.js, Vi.partM, Vi.eq_int, Vi.eq_str, Vi.eq_bool, Vi.eq_ints, c1]
      generalize (BL.filter fun k : Nat => decide ((b : Int) ≤ k ∧ (k : Int) < b + (leastV l : Nat) - 1)) = FL at c wn
      generalize (leastV l : Int) = LV at c ⊢
      have fl : ¬ ((FL.length : Nat) : Int) = 0 := by
        intro z
        have : FL.length = 0 := by omega
        exact wn (List.length_eq_zero_iff.mp this)
      have dm := dsm FL
      refine ⟨[o, some (.fz (tx l)), some (.fz (.int n)), some (.fz (iL NL)), some (.fz (.int LV)), some (.fz (iL BL)), s6, y7, s8, some (.fz (.int (b : Nat)))], [o, some (.fz (tx l)), some (.fz (.int n)), some (.fz (iL NL)), some (.fz (.int LV)), some (.fz (iL BL)), s6, y7, s8, some (.fz (.int (b : Nat)))], by simp -implicitDefEqProofs [Vi.bind_ok, Vi.bind_bad, Vi.bind_ex, Vi.so_ok, Vi.sb_nx, Vi.sb_ret, Vi.sb_bad, Vi.d_fz, Vi.d_olI, Vi.d_ol, Vi.o_some, Vi.tst_b, Vi.tst_i, Vi.tst_l, Vi.tst_s, Vi.tst_n, Vi.oB_some, Vi.oP_some, Vi.oL_some, Vi.rdV_fz, Vi.rdV_ol, Vi.rdV2_some, Vi.mvV_ol, Vi.mvV_fz, Vi.rdVar_c, Vi.ev_var, Vi.ev_mv, Vi.ev_int, Vi.ev_bl, Vi.ev_non, Vi.ev_str, Vi.ev_gi, Vi.ev_gs, Vi.ev_bin, Vi.ev_neg, Vi.ev_cmp, Vi.evT_cmp, Vi.ev_chain, Vi.ev_one, Vi.andK_b, Vi.orK_b, Vi.notK_b, Vi.ev_and, Vi.ev_or, Vi.ev_not, Vi.isB_b, Vi.ev_ite, Vi.ev_tup, Vi.ev_lst, Vi.ev_ix, Vi.ev_slc, Vi.evP_no, Vi.evP_yes, Vi.ev_call, Vi.calK_some, Vi.calR_ok, Vi.evA_nil, Vi.evA_e, Vi.evA_o, Vi.args_nil, Vi.args_e, Vi.args_o, Vi.argK_s, Vi.asm_nil, Vi.asm_e, Vi.asm_o, Vi.asmK_s, Vi.lent_ol, Vi.lent_sc, Vi.lent_fz, Vi.put_nil, Vi.put_e, Vi.put_o, Vi.ev_blt, Vi.ev_isi, Vi.ev_lsc, Vi.lscK_s, Vi.cmpK_ok, Vi.ev_lc, Vi.evC_no, Vi.evC_yes, Vi.evI_e, Vi.evI_r1, Vi.evI_r2, Vi.evs_nil, Vi.evs_cons, Vi.evO_nil, Vi.evO_cons, Vi.olO_s, Vi.olOf_c, Vi.appK_s, Vi.appK2_s, Vi.ev_app, Vi.ev_mt, Vi.evT_mt, Vi.appNK_s, Vi.ev_appN, Vi.inOf_c, Vi.inK_s, Vi.inK2_s, Vi.mvixK_s, Vi.ev_mvix, Vi.ev_rev, Vi.ev_repC, Vi.evT_rev, Vi.evI_en, Vi.evI_rv, Vi.evI_rg, Vi.rgK_s, Vi.asgTK_s, Vi.ex_asgT, Vi.bwsK_nx, Vi.bwsK_ret, Vi.ex_bws, Vi.ex_rais, Vi.tryK_nx, Vi.tryK_ret, Vi.ex_try, Vi.so_ex, Vi.sb_ex, Vi.d_ex, Vi.runK_ex, Vi.calR_ex, Vi.keepE, Vi.cloF, Vi.closedR, Vi.bwK_ok, Vi.ev_bw, Vi.bwK'_ok, Vi.evT_bw, Vi.evT_chain, Vi.evT_one, Vi.evT_and, Vi.evT_or, Vi.evT_not, Vi.evT_var, Vi.evT_call, Vi.evT_isi, Vi.evT_blt, Vi.evT_ix, Vi.evT_bin, Vi.evT_bl, Vi.ex_pass, Vi.ex_asg, Vi.ex_expr, Vi.ex_ret, Vi.ex_retN, Vi.ex_if, Vi.ex_for, Vi.setK_s, Vi.setK2_s, Vi.setK3_s, Vi.ex_set, Vi.ex_aug, Vi.ex_augS, Vi.augM, Vi.augSM, Vi.exs_nil, Vi.exs_cons, Vi.run_b, Vi.runK_ret, Vi.runK_nx, Vi.frzE_nil, Vi.frz_cons, Vi.frzK_ol, Vi.frzK2_s, Vi.frzK_fz, Vi.frzK_no, Vi.frzK_olI, Vi.rdV_olI, Vi.mvV_olI, Vi.olO_olI, Vi.lent_olI, Vi.closed_olI, Vi.dOf_fz, Vi.dOf_olI, Vi.dOf_olI', Vi.dsOf_fz, Vi.dsOf_ints, Vi.dsOf_nil, Vi.dsOf_cons, Option.map_some, Vi.binD, Vi.add_int, Vi.sub_int, Vi.cmpD, Vi.lt_int, Vi.le_int, Vi.gt_int, Vi.ge_int, Vi.neg_int, Vi.bf_len_l, Vi.bf_len_t, Vi.bf_len_s, Vi.bf_abs, Vi.bf_int, Vi.bf_intb, Vi.bf_max2, Vi.bf_min2, Vi.bf_list_l, Vi.bf_list_t, Vi.bf_tup_l, Vi.bf_sum, Vi.ix_l, Vi.ix_t, Vi.isiD, Vi.chain2_eq, Vi.chainK_b, Vi.iop_add, Vi.iop_sub, Vi.it_l, Vi.it_t, Vi.lentOk, Vi.outs_nil, Vi.outs_fz, Vi.outs_c, List.tail_cons, Vi.killE, Vi.noOwn, Vi.closed, Vi.closeds, Vi.closedD, Vi.closeds_ints, Vi.wipeE, Vi.resE, Vi.bd_nm, Vi.bd_tp, Vi.bdN, Vi.bdT, Vi.bdsN, Vi.bdNil, Vi.bdCons, Vi.Tg.js, Vi.partM, Vi.eq_int, Vi.eq_str, Vi.eq_bool, Vi.eq_ints], ?_, y7, _, rfl⟩
      simp -implicitDefEqProofs [b__law_right_1, Vi.bind_ok, Vi.bind_bad, Vi.bind_ex, Vi.so_ok, Vi.sb_nx, Vi.sb_ret, Vi.sb_bad, Vi.d_fz, Vi.d_olI, Vi.d_ol, Vi.o_some, Vi.tst_b, Vi.tst_i, Vi.tst_l, Vi.tst_s, Vi.tst_n, Vi.oB_some, Vi.oP_some, Vi.oL_some, Vi.rdV_fz, Vi.rdV_ol, Vi.rdV2_some, Vi.mvV_ol, Vi.mvV_fz, Vi.rdVar_c, Vi.ev_var, Vi.ev_mv, Vi.ev_int, Vi.ev_bl, Vi.ev_non, Vi.ev_str, Vi.ev_gi, Vi.ev_gs, Vi.ev_bin, Vi.ev_neg, Vi.ev_cmp, Vi.evT_cmp, Vi.ev_chain, Vi.ev_one, Vi.andK_b, Vi.orK_b, Vi.notK_b, Vi.ev_and, Vi.ev_or, Vi.ev_not, Vi.isB_b, Vi.ev_ite, Vi.ev_tup, Vi.ev_lst, Vi.ev_ix, Vi.ev_slc, Vi.evP_no, Vi.evP_yes, Vi.ev_call, Vi.calK_some, Vi.calR_ok, Vi.evA_nil, Vi.evA_e, Vi.evA_o, Vi.args_nil, Vi.args_e, Vi.args_o, Vi.argK_s, Vi.asm_nil, Vi.asm_e, Vi.asm_o, Vi.asmK_s, Vi.lent_ol, Vi.lent_sc, Vi.lent_fz, Vi.put_nil, Vi.put_e, Vi.put_o, Vi.ev_blt, Vi.ev_isi, Vi.ev_lsc, Vi.lscK_s, Vi.cmpK_ok, Vi.ev_lc, Vi.evC_no, Vi.evC_yes, Vi.evI_e, Vi.evI_r1, Vi.evI_r2, Vi.evs_nil, Vi.evs_cons, Vi.evO_nil, Vi.evO_cons, Vi.olO_s, Vi.olOf_c, Vi.appK_s, Vi.appK2_s, Vi.ev_app, Vi.ev_mt, Vi.evT_mt, Vi.appNK_s, Vi.ev_appN, Vi.inOf_c, Vi.inK_s, Vi.inK2_s, Vi.mvixK_s, Vi.ev_mvix, Vi.ev_rev, Vi.ev_repC, Vi.evT_rev, Vi.evI_en, Vi.evI_rv, Vi.evI_rg, Vi.rgK_s, Vi.asgTK_s, Vi.ex_asgT, Vi.bwsK_nx, Vi.bwsK_ret, Vi.ex_bws, Vi.ex_rais, Vi.tryK_nx, Vi.tryK_ret, Vi.ex_try, Vi.so_ex, Vi.sb_ex, Vi.d_ex, Vi.runK_ex, Vi.calR_ex, Vi.keepE, Vi.cloF, Vi.closedR, Vi.bwK_ok, Vi.ev_bw, Vi.bwK'_ok, Vi.evT_bw, Vi.evT_chain, Vi.evT_one, Vi.evT_and, Vi.evT_or, Vi.evT_not, Vi.evT_var, Vi.evT_call, Vi.evT_isi, Vi.evT_blt, Vi.evT_ix, Vi.evT_bin, Vi.evT_bl, Vi.ex_pass, Vi.ex_asg, Vi.ex_expr, Vi.ex_ret, Vi.ex_retN, Vi.ex_if, Vi.ex_for, Vi.setK_s, Vi.setK2_s, Vi.setK3_s, Vi.ex_set, Vi.ex_aug, Vi.ex_augS, Vi.augM, Vi.augSM, Vi.exs_nil, Vi.exs_cons, Vi.run_b, Vi.runK_ret, Vi.runK_nx, Vi.frzE_nil, Vi.frz_cons, Vi.frzK_ol, Vi.frzK2_s, Vi.frzK_fz, Vi.frzK_no, Vi.frzK_olI, Vi.rdV_olI, Vi.mvV_olI, Vi.olO_olI, Vi.lent_olI, Vi.closed_olI, Vi.dOf_fz, Vi.dOf_olI, Vi.dOf_olI', Vi.dsOf_fz, Vi.dsOf_ints, Vi.dsOf_nil, Vi.dsOf_cons, Option.map_some, Vi.binD, Vi.add_int, Vi.sub_int, Vi.cmpD, Vi.lt_int, Vi.le_int, Vi.gt_int, Vi.ge_int, Vi.neg_int, Vi.bf_len_l, Vi.bf_len_t, Vi.bf_len_s, Vi.bf_abs, Vi.bf_int, Vi.bf_intb, Vi.bf_max2, Vi.bf_min2, Vi.bf_list_l, Vi.bf_list_t, Vi.bf_tup_l, Vi.bf_sum, Vi.ix_l, Vi.ix_t, Vi.isiD, Vi.chain2_eq, Vi.chainK_b, Vi.iop_add, Vi.iop_sub, Vi.it_l, Vi.it_t, Vi.lentOk, Vi.outs_nil, Vi.outs_fz, Vi.outs_c, List.tail_cons, Vi.killE, Vi.noOwn, Vi.closed, Vi.closeds, Vi.closedD, Vi.closeds_ints, Vi.wipeE, Vi.resE, Vi.bd_nm, Vi.bd_tp, Vi.bdN, Vi.bdT, Vi.bdsN, Vi.bdNil, Vi.bdCons, Vi.Tg.js, Vi.partM, Vi.eq_int, Vi.eq_str, Vi.eq_bool, Vi.eq_ints, iL] at c ⊢
      simp -implicitDefEqProofs [Vi.bind_ok, Vi.bind_bad, Vi.bind_ex, Vi.so_ok, Vi.sb_nx, Vi.sb_ret, Vi.sb_bad, Vi.d_fz, Vi.d_olI, Vi.d_ol, Vi.o_some, Vi.tst_b, Vi.tst_i, Vi.tst_l, Vi.tst_s, Vi.tst_n, Vi.oB_some, Vi.oP_some, Vi.oL_some, Vi.rdV_fz, Vi.rdV_ol, Vi.rdV2_some, Vi.mvV_ol, Vi.mvV_fz, Vi.rdVar_c, Vi.ev_var, Vi.ev_mv, Vi.ev_int, Vi.ev_bl, Vi.ev_non, Vi.ev_str, Vi.ev_gi, Vi.ev_gs, Vi.ev_bin, Vi.ev_neg, Vi.ev_cmp, Vi.evT_cmp, Vi.ev_chain, Vi.ev_one, Vi.andK_b, Vi.orK_b, Vi.notK_b, Vi.ev_and, Vi.ev_or, Vi.ev_not, Vi.isB_b, Vi.ev_ite, Vi.ev_tup, Vi.ev_lst, Vi.ev_ix, Vi.ev_slc, Vi.evP_no, Vi.evP_yes, Vi.ev_call, Vi.calK_some, Vi.calR_ok, Vi.evA_nil, Vi.evA_e, Vi.evA_o, Vi.args_nil, Vi.args_e, Vi.args_o, Vi.argK_s, Vi.asm_nil, Vi.asm_e, Vi.asm_o, Vi.asmK_s, Vi.lent_ol, Vi.lent_sc, Vi.lent_fz, Vi.put_nil, Vi.put_e, Vi.put_o, Vi.ev_blt, Vi.ev_isi, Vi.ev_lsc, Vi.lscK_s, Vi.cmpK_ok, Vi.ev_lc, Vi.evC_no, Vi.evC_yes, Vi.evI_e, Vi.evI_r1, Vi.evI_r2, Vi.evs_nil, Vi.evs_cons, Vi.evO_nil, Vi.evO_cons, Vi.olO_s, Vi.olOf_c, Vi.appK_s, Vi.appK2_s, Vi.ev_app, Vi.ev_mt, Vi.evT_mt, Vi.appNK_s, Vi.ev_appN, Vi.inOf_c, Vi.inK_s, Vi.inK2_s, Vi.mvixK_s, Vi.ev_mvix, Vi.ev_rev, Vi.ev_repC, Vi.evT_rev, Vi.evI_en, Vi.evI_rv, Vi.evI_rg, Vi.rgK_s, Vi.asgTK_s, Vi.ex_asgT, Vi.bwsK_nx, Vi.bwsK_ret, Vi.ex_bws, Vi.ex_rais, Vi.tryK_nx, Vi.tryK_ret, Vi.ex_try, Vi.so_ex, Vi.sb_ex, Vi.d_ex, Vi.runK_ex, Vi.calR_ex, Vi.keepE, Vi.cloF, Vi.closedR, Vi.bwK_ok, Vi.ev_bw, Vi.bwK'_ok, Vi.evT_bw, Vi.evT_chain, Vi.evT_one, Vi.evT_and, Vi.evT_or, Vi.evT_not, Vi.evT_var, Vi.evT_call, Vi.evT_isi, Vi.evT_blt, Vi.evT_ix, Vi.evT_bin, Vi.evT_bl, Vi.ex_pass, Vi.ex_asg, Vi.ex_expr, Vi.ex_ret, Vi.ex_retN, Vi.ex_if, Vi.ex_for, Vi.setK_s, Vi.setK2_s, Vi.setK3_s, Vi.ex_set, Vi.ex_aug, Vi.ex_augS, Vi.augM, Vi.augSM, Vi.exs_nil, Vi.exs_cons, Vi.run_b, Vi.runK_ret, Vi.runK_nx, Vi.frzE_nil, Vi.frz_cons, Vi.frzK_ol, Vi.frzK2_s, Vi.frzK_fz, Vi.frzK_no, Vi.frzK_olI, Vi.rdV_olI, Vi.mvV_olI, Vi.olO_olI, Vi.lent_olI, Vi.closed_olI, Vi.dOf_fz, Vi.dOf_olI, Vi.dOf_olI', Vi.dsOf_fz, Vi.dsOf_ints, Vi.dsOf_nil, Vi.dsOf_cons, Option.map_some, Vi.binD, Vi.add_int, Vi.sub_int, Vi.cmpD, Vi.lt_int, Vi.le_int, Vi.gt_int, Vi.ge_int, Vi.neg_int, Vi.bf_len_l, Vi.bf_len_t, Vi.bf_len_s, Vi.bf_abs, Vi.bf_int, Vi.bf_intb, Vi.bf_max2, Vi.bf_min2, Vi.bf_list_l, Vi.bf_list_t, Vi.bf_tup_l, Vi.bf_sum, Vi.ix_l, Vi.ix_t, Vi.isiD, Vi.chain2_eq, Vi.chainK_b, Vi.iop_add, Vi.iop_sub, Vi.it_l, Vi.it_t, Vi.lentOk, Vi.outs_nil, Vi.outs_fz, Vi.outs_c, List.tail_cons, Vi.killE, Vi.noOwn, Vi.closed, Vi.closeds, Vi.closedD, Vi.closeds_ints, Vi.wipeE, Vi.resE, Vi.bd_nm, Vi.bd_tp, Vi.bdN, Vi.bdT, Vi.bdsN, Vi.bdNil, Vi.bdCons, Vi.Tg.js, Vi.partM, Vi.eq_int, Vi.eq_str, Vi.eq_bool, Vi.eq_ints, c, dm, fl, wn])
  exact ⟨_, h1⟩
end
end K17

set_option Elab.async false
set_option linter.all false
set_option maxRecDepth 100000
set_option maxHeartbeats 4000000
namespace K17
open PySem Vi L2
open K56 (pow)
theorem right_ok {o : OV} (ho : IsFeed o) {l : List Nat} (hl : l.length ≤ 1000) (h2 : 2 ≤ l.length) : ∃ o' : OV, IsFeed o' ∧ den__law_right [o, .fz (tx l)] = .ok (.fz (.bool true)) [some o', none] := by
  obtain ⟨r, o1, d1, l1, u1, f1⟩ := draw_ok ho (many := (l.length : Int) - 1) (by omega) (by omega)
  rw [dr_eq] at d1
  have e0 := feed_lent ho
  have rr1 : rngD [.int 1, .int (l.length : Int)] = some ((upF 1 l.length).map fun i => .int (i : Nat)) := rng_upF (m := 1) (by omega) (by omega)
  have rr2 : rngD [.int 2] = some ((rgI 0 2).map .int) := by rw [← rngL_eq]; exact rng_1 (by decide) (by decide)
  have c1 := due_comp hl h2 (o := some o) (s3 := none) (s4 := none) (s5 := none) (s6 := none) (s8 := none) (s9 := none)
  have t1 := ok_lleast hl (by omega)
  have c2 := brk_comp hl h2 (o := some o) (s5 := none) (s6 := none) (s8 := none) (s9 := none)
  obtain ⟨y6, y8, h3⟩ := told_loop hl h2 (o := some o) (s6 := none) (s8 := none)
  obtain ⟨k3, hk3⟩ : ∃ k3 : Nat, (k3 : Int) = 1 + r := ⟨(1 + r).toNat, by omega⟩
  obtain ⟨y7, h4⟩ := near_loop hl h2 (o := some o1) (s5 := some (iO (brkL l))) (s6 := y6) (s8 := y8) (k1 := 1) (k2 := l.length - 1) (k3 := k3) ⟨by omega, by omega⟩ ⟨by omega, by omega⟩ ⟨by omega, by omega⟩
  have e2 : ((l.length - 1 : Nat) : Int) = (l.length : Int) - 1 := by omega
  rw [e2, hk3, show ((1 : Nat) : Int) = 1 from rfl] at h4
  have mx := max_near h2
  have bn : brkL l ≠ [] := fun z => by have := brk_ne h2; rw [z] at this; simp at this
  have ll : leastV l ≤ l.length := (least_spec (l := l) (by omega)).2.2.1
  have rr3 : rngD [.int 1, .int ((l.length : Int) - (leastV l : Nat) + 2)] = some ((upF 1 (l.length + 2 - leastV l)).map fun i => .int (i : Nat)) := by
    have := rng_upF (m := 1) (n := l.length + 2 - leastV l) (by omega) (by omega)
    rw [show ((l.length + 2 - leastV l : Nat) : Int) = (l.length : Int) - (leastV l : Nat) + 2 by omega] at this
    exact this
  have sz : 1000 < sizeLine := by decide
  have sz3 : 3 ≤ sizeLine := by omega
  have dB := dsOf_map (g := fun i : Nat => PyData.int (i : Nat)) (l := brkL l)
  by_cases hq : 1 < leastV l
  · obtain ⟨E, h5⟩ := win_loop hl h2 hq (o := some o1) (s6 := y6) (s7 := y7) (s8 := y8)
    have hq' : (1 : Int) < (leastV l : Nat) := by omega
    refine ⟨o1, f1, ?_⟩
    generalize upF 1 (l.length + 2 - leastV l) = U3 at rr3 h5
    generalize upF 1 l.length = U1 at rr1 c1 c2
    generalize (leastV l : Int) = LV at *
    generalize nearL l = NL at *
    generalize brkL l = BL at *
    have tl : (((tS l).length : Nat) : Int) = (l.length : Int) := by rw [tS_len]
    generalize (l.length : Int) = n at *
    simp -implicitDefEqProofs [den__law_right, bod__law_right, b__law_right_14, b__law_right_13, b__law_right_12, b__law_right_11, b__law_right_10, b__law_right_5, b__law_right_3, b__law_right_2, b__law_right_0, Vi.bind_ok, Vi.bind_bad, Vi.bind_ex, Vi.so_ok, Vi.sb_nx, Vi.sb_ret, Vi.sb_bad, Vi.d_fz, Vi.d_olI, Vi.d_ol, Vi.o_some, Vi.tst_b, Vi.tst_i, Vi.tst_l, Vi.tst_s, Vi.tst_n, Vi.oB_some, Vi.oP_some, Vi.oL_some, Vi.rdV_fz, Vi.rdV_ol, Vi.rdV2_some, Vi.mvV_ol, Vi.mvV_fz, Vi.rdVar_c, Vi.ev_var, Vi.ev_mv, Vi.ev_int, Vi.ev_bl, Vi.ev_non, Vi.ev_str, Vi.ev_gi, Vi.ev_gs, Vi.ev_bin, Vi.ev_neg, Vi.ev_cmp, Vi.evT_cmp, Vi.ev_chain, Vi.ev_one, Vi.andK_b, Vi.orK_b, Vi.notK_b, Vi.ev_and, Vi.ev_or, Vi.ev_not, Vi.isB_b, Vi.ev_ite, Vi.ev_tup, Vi.ev_lst, Vi.ev_ix, Vi.ev_slc, Vi.evP_no, Vi.evP_yes, Vi.ev_call, Vi.calK_some, Vi.calR_ok, Vi.evA_nil, Vi.evA_e, Vi.evA_o, Vi.args_nil, Vi.args_e, Vi.args_o, Vi.argK_s, Vi.asm_nil, Vi.asm_e, Vi.asm_o, Vi.asmK_s, Vi.lent_ol, Vi.lent_sc, Vi.lent_fz, Vi.put_nil, Vi.put_e, Vi.put_o, Vi.ev_blt, Vi.ev_isi, Vi.ev_lsc, Vi.lscK_s, Vi.cmpK_ok, Vi.ev_lc, Vi.evC_no, Vi.evC_yes, Vi.evI_e, Vi.evI_r1, Vi.evI_r2, Vi.evs_nil, Vi.evs_cons, Vi.evO_nil, Vi.evO_cons, Vi.olO_s, Vi.olOf_c, Vi.appK_s, Vi.appK2_s, Vi.ev_app, Vi.ev_mt, Vi.evT_mt, Vi.appNK_s, Vi.ev_appN, Vi.inOf_c, Vi.inK_s, Vi.inK2_s, Vi.mvixK_s, Vi.ev_mvix, Vi.ev_rev, Vi.ev_repC, Vi.evT_rev, Vi.evI_en, Vi.evI_rv, Vi.evI_rg, Vi.rgK_s, Vi.asgTK_s, Vi.ex_asgT, Vi.bwsK_nx, Vi.bwsK_ret, Vi.ex_bws, Vi.ex_rais, Vi.tryK_nx, Vi.tryK_ret, Vi.ex_try, Vi.so_ex, Vi.sb_ex, Vi.d_ex, Vi.runK_ex, Vi.calR_ex, Vi.keepE, Vi.cloF, Vi.closedR, Vi.bwK_ok, Vi.ev_bw, Vi.bwK'_ok, Vi.evT_bw, Vi.evT_chain, Vi.evT_one, Vi.evT_and, Vi.evT_or, Vi.evT_not, Vi.evT_var, Vi.evT_call, Vi.evT_isi, Vi.evT_blt, Vi.evT_ix, Vi.evT_bin, Vi.evT_bl, Vi.ex_pass, Vi.ex_asg, Vi.ex_expr, Vi.ex_ret, Vi.ex_retN, Vi.ex_if, Vi.ex_for, Vi.setK_s, Vi.setK2_s, Vi.setK3_s, Vi.ex_set, Vi.ex_aug, Vi.ex_augS, Vi.augM, Vi.augSM, Vi.exs_nil, Vi.exs_cons, Vi.run_b, Vi.runK_ret, Vi.runK_nx, Vi.frzE_nil, Vi.frz_cons, Vi.frzK_ol, Vi.frzK2_s, Vi.frzK_fz, Vi.frzK_no, Vi.frzK_olI, Vi.rdV_olI, Vi.mvV_olI, Vi.olO_olI, Vi.lent_olI, Vi.closed_olI, Vi.dOf_fz, Vi.dOf_olI, Vi.dOf_olI', Vi.dsOf_fz, Vi.dsOf_ints, Vi.dsOf_nil, Vi.dsOf_cons, Option.map_some, Vi.binD, Vi.add_int, Vi.sub_int, Vi.cmpD, Vi.lt_int, Vi.le_int, Vi.gt_int, Vi.ge_int, Vi.neg_int, Vi.bf_len_l, Vi.bf_len_t, Vi.bf_len_s, Vi.bf_abs, Vi.bf_int, Vi.bf_intb, Vi.bf_max2, Vi.bf_min2, Vi.bf_list_l, Vi.bf_list_t, Vi.bf_tup_l, Vi.bf_sum, Vi.ix_l, Vi.ix_t, Vi.isiD, Vi.chain2_eq, Vi.chainK_b, Vi.iop_add, Vi.iop_sub, Vi.it_l, Vi.it_t, Vi.lentOk, Vi.outs_nil, Vi.outs_fz, Vi.outs_c, List.tail_cons, Vi.killE, Vi.noOwn, Vi.closed, Vi.closeds, Vi.closedD, Vi.closeds_ints, Vi.wipeE, Vi.resE, Vi.bd_nm, Vi.bd_tp, Vi.bdN, Vi.bdT, Vi.bdsN, Vi.bdNil, Vi.bdCons, Vi.Tg.js, Vi.partM, Vi.eq_int, Vi.eq_str, Vi.eq_bool, Vi.eq_ints, rho__law_right, tl, e0, rr1, rr2, rr3, c1, c2, t1, h3, d1, h4, mx, bn, sz3, iO, iL, dsOf_map, dsOf_comp, hq', h5]
  · have hq' : ¬ (1 : Int) < (leastV l : Nat) := by omega
    refine ⟨o1, f1, ?_⟩
    generalize upF 1 l.length = U1 at rr1 c1 c2
    generalize (leastV l : Int) = LV at *
    generalize nearL l = NL at *
    generalize brkL l = BL at *
    have tl : (((tS l).length : Nat) : Int) = (l.length : Int) := by rw [tS_len]
    generalize (l.length : Int) = n at *
    simp -implicitDefEqProofs [den__law_right, bod__law_right, b__law_right_14, b__law_right_13, b__law_right_12, b__law_right_11, b__law_right_10, b__law_right_5, b__law_right_3, b__law_right_2, b__law_right_0, Vi.bind_ok, Vi.bind_bad, Vi.bind_ex, Vi.so_ok, Vi.sb_nx, Vi.sb_ret, Vi.sb_bad, Vi.d_fz, Vi.d_olI, Vi.d_ol, Vi.o_some, Vi.tst_b, Vi.tst_i, Vi.tst_l, Vi.tst_s, Vi.tst_n, Vi.oB_some, Vi.oP_some, Vi.oL_some, Vi.rdV_fz, Vi.rdV_ol, Vi.rdV2_some, Vi.mvV_ol, Vi.mvV_fz, Vi.rdVar_c, Vi.ev_var, Vi.ev_mv, Vi.ev_int, Vi.ev_bl, Vi.ev_non, Vi.ev_str, Vi.ev_gi, Vi.ev_gs, Vi.ev_bin, Vi.ev_neg, Vi.ev_cmp, Vi.evT_cmp, Vi.ev_chain, Vi.ev_one, Vi.andK_b, Vi.orK_b, Vi.notK_b, Vi.ev_and, Vi.ev_or, Vi.ev_not, Vi.isB_b, Vi.ev_ite, Vi.ev_tup, Vi.ev_lst, Vi.ev_ix, Vi.ev_slc, Vi.evP_no, Vi.evP_yes, Vi.ev_call, Vi.calK_some, Vi.calR_ok, Vi.evA_nil, Vi.evA_e, Vi.evA_o, Vi.args_nil, Vi.args_e, Vi.args_o, Vi.argK_s, Vi.asm_nil, Vi.asm_e, Vi.asm_o, Vi.asmK_s, Vi.lent_ol, Vi.lent_sc, Vi.lent_fz, Vi.put_nil, Vi.put_e, Vi.put_o, Vi.ev_blt, Vi.ev_isi, Vi.ev_lsc, Vi.lscK_s, Vi.cmpK_ok, Vi.ev_lc, Vi.evC_no, Vi.evC_yes, Vi.evI_e, Vi.evI_r1, Vi.evI_r2, Vi.evs_nil, Vi.evs_cons, Vi.evO_nil, Vi.evO_cons, Vi.olO_s, Vi.olOf_c, Vi.appK_s, Vi.appK2_s, Vi.ev_app, Vi.ev_mt, Vi.evT_mt, Vi.appNK_s, Vi.ev_appN, Vi.inOf_c, Vi.inK_s, Vi.inK2_s, Vi.mvixK_s, Vi.ev_mvix, Vi.ev_rev, Vi.ev_repC, Vi.evT_rev, Vi.evI_en, Vi.evI_rv, Vi.evI_rg, Vi.rgK_s, Vi.asgTK_s, Vi.ex_asgT, Vi.bwsK_nx, Vi.bwsK_ret, Vi.ex_bws, Vi.ex_rais, Vi.tryK_nx, Vi.tryK_ret, Vi.ex_try, Vi.so_ex, Vi.sb_ex, Vi.d_ex, Vi.runK_ex, Vi.calR_ex, Vi.keepE, Vi.cloF, Vi.closedR, Vi.bwK_ok, Vi.ev_bw, Vi.bwK'_ok, Vi.evT_bw, Vi.evT_chain, Vi.evT_one, Vi.evT_and, Vi.evT_or, Vi.evT_not, Vi.evT_var, Vi.evT_call, Vi.evT_isi, Vi.evT_blt, Vi.evT_ix, Vi.evT_bin, Vi.evT_bl, Vi.ex_pass, Vi.ex_asg, Vi.ex_expr, Vi.ex_ret, Vi.ex_retN, Vi.ex_if, Vi.ex_for, Vi.setK_s, Vi.setK2_s, Vi.setK3_s, Vi.ex_set, Vi.ex_aug, Vi.ex_augS, Vi.augM, Vi.augSM, Vi.exs_nil, Vi.exs_cons, Vi.run_b, Vi.runK_ret, Vi.runK_nx, Vi.frzE_nil, Vi.frz_cons, Vi.frzK_ol, Vi.frzK2_s, Vi.frzK_fz, Vi.frzK_no, Vi.frzK_olI, Vi.rdV_olI, Vi.mvV_olI, Vi.olO_olI, Vi.lent_olI, Vi.closed_olI, Vi.dOf_fz, Vi.dOf_olI, Vi.dOf_olI', Vi.dsOf_fz, Vi.dsOf_ints, Vi.dsOf_nil, Vi.dsOf_cons, Option.map_some, Vi.binD, Vi.add_int, Vi.sub_int, Vi.cmpD, Vi.lt_int, Vi.le_int, Vi.gt_int, Vi.ge_int, Vi.neg_int, Vi.bf_len_l, Vi.bf_len_t, Vi.bf_len_s, Vi.bf_abs, Vi.bf_int, Vi.bf_intb, Vi.bf_max2, Vi.bf_min2, Vi.bf_list_l, Vi.bf_list_t, Vi.bf_tup_l, Vi.bf_sum, Vi.ix_l, Vi.ix_t, Vi.isiD, Vi.chain2_eq, Vi.chainK_b, Vi.iop_add, Vi.iop_sub, Vi.it_l, Vi.it_t, Vi.lentOk, Vi.outs_nil, Vi.outs_fz, Vi.outs_c, List.tail_cons, Vi.killE, Vi.noOwn, Vi.closed, Vi.closeds, Vi.closedD, Vi.closeds_ints, Vi.wipeE, Vi.resE, Vi.bd_nm, Vi.bd_tp, Vi.bdN, Vi.bdT, Vi.bdsN, Vi.bdNil, Vi.bdCons, Vi.Tg.js, Vi.partM, Vi.eq_int, Vi.eq_str, Vi.eq_bool, Vi.eq_ints, rho__law_right, tl, e0, rr1, rr2, c1, c2, t1, h3, d1, h4, mx, bn, sz3, iO, iL, dsOf_map, dsOf_comp, hq']
theorem own_loop {a t x3 x4 x5 x6 : Option OV} {o : OV} (ho : IsFeed o) {ws : List (List Nat)} (hw : ∀ w ∈ ws, w.length ≤ 1000 ∧ 2 ≤ w.length) : ∃ (o' : OV) (y6 : Option OV), IsFeed o' ∧ forL (bdG (.nm 6)) (exs rho_law [0] b_law_2) (ws.map tx) [a, some o, t, x3, x4, x5, x6] = .nx [a, some o', t, x3, x4, x5, y6] := by
  obtain ⟨env, h1, o', y6, f, rfl⟩ := forL_inv (bd := bdG (.nm 6)) (mb := exs rho_law [0] b_law_2) (g := tx) (fun _ env => ∃ (o' : OV) (y6 : Option OV), IsFeed o' ∧ env = [a, some o', t, x3, x4, x5, y6]) ws [] [a, some o, t, x3, x4, x5, x6] ⟨o, x6, ho, rfl⟩
    (by
      rintro d w r env he ⟨o', y6, f, rfl⟩
      have hx : w ∈ ws := by rw [← List.nil_append ws, ← he]; simp
      obtain ⟨o2, f2, rt⟩ := right_ok f (hw w hx).1 (hw w hx).2
      have e := feed_lent f
      exact ⟨[a, some o', t, x3, x4, x5, some (.fz (tx w))], [a, some o2, t, x3, x4, x5, some (.fz (tx w))], by simp -implicitDefEqProofs [Vi.bind_ok, Vi.bind_bad, Vi.bind_ex, Vi.so_ok, Vi.sb_nx, Vi.sb_ret, Vi.sb_bad, Vi.d_fz, Vi.d_olI, Vi.d_ol, Vi.o_some, Vi.tst_b, Vi.tst_i, Vi.tst_l, Vi.tst_s, Vi.tst_n, Vi.oB_some, Vi.oP_some, Vi.oL_some, Vi.rdV_fz, Vi.rdV_ol, Vi.rdV2_some, Vi.mvV_ol, Vi.mvV_fz, Vi.rdVar_c, Vi.ev_var, Vi.ev_mv, Vi.ev_int, Vi.ev_bl, Vi.ev_non, Vi.ev_str, Vi.ev_gi, Vi.ev_gs, Vi.ev_bin, Vi.ev_neg, Vi.ev_cmp, Vi.evT_cmp, Vi.ev_chain, Vi.ev_one, Vi.andK_b, Vi.orK_b, Vi.notK_b, Vi.ev_and, Vi.ev_or, Vi.ev_not, Vi.isB_b, Vi.ev_ite, Vi.ev_tup, Vi.ev_lst, Vi.ev_ix, Vi.ev_slc, Vi.evP_no, Vi.evP_yes, Vi.ev_call, Vi.calK_some, Vi.calR_ok, Vi.evA_nil, Vi.evA_e, Vi.evA_o, Vi.args_nil, Vi.args_e, Vi.args_o, Vi.argK_s, Vi.asm_nil, Vi.asm_e, Vi.asm_o, Vi.asmK_s, Vi.lent_ol, Vi.lent_sc, Vi.lent_fz, Vi.put_nil, Vi.put_e, Vi.put_o, Vi.ev_blt, Vi.ev_isi, Vi.ev_lsc, Vi.lscK_s, Vi.cmpK_ok, Vi.ev_lc, Vi.evC_no, Vi.evC_yes, Vi.evI_e, Vi.evI_r1, Vi.evI_r2, Vi.evs_nil, Vi.evs_cons, Vi.evO_nil, Vi.evO_cons, Vi.olO_s, Vi.olOf_c, Vi.appK_s, Vi.appK2_s, Vi.ev_app, Vi.ev_mt, Vi.evT_mt, Vi.appNK_s, Vi.ev_appN, Vi.inOf_c, Vi.inK_s, Vi.inK2_s, Vi.mvixK_s, Vi.ev_mvix, Vi.ev_rev, Vi.ev_repC, Vi.evT_rev, Vi.evI_en, Vi.evI_rv, Vi.evI_rg, Vi.rgK_s, Vi.asgTK_s, Vi.ex_asgT, Vi.bwsK_nx, Vi.bwsK_ret, Vi.ex_bws, Vi.ex_rais, Vi.tryK_nx, Vi.tryK_ret, Vi.ex_try, Vi.so_ex, Vi.sb_ex, Vi.d_ex, Vi.runK_ex, Vi.calR_ex, Vi.keepE, Vi.cloF, Vi.closedR, Vi.bwK_ok, Vi.ev_bw, Vi.bwK'_ok, Vi.evT_bw, Vi.evT_chain, Vi.evT_one, Vi.evT_and, Vi.evT_or, Vi.evT_not, Vi.evT_var, Vi.evT_call, Vi.evT_isi, Vi.evT_blt, Vi.evT_ix, Vi.evT_bin, Vi.evT_bl, Vi.ex_pass, Vi.ex_asg, Vi.ex_expr, Vi.ex_ret, Vi.ex_retN, Vi.ex_if, Vi.ex_for, Vi.setK_s, Vi.setK2_s, Vi.setK3_s, Vi.ex_set, Vi.ex_aug, Vi.ex_augS, Vi.augM, Vi.augSM, Vi.exs_nil, Vi.exs_cons, Vi.run_b, Vi.runK_ret, Vi.runK_nx, Vi.frzE_nil, Vi.frz_cons, Vi.frzK_ol, Vi.frzK2_s, Vi.frzK_fz, Vi.frzK_no, Vi.frzK_olI, Vi.rdV_olI, Vi.mvV_olI, Vi.olO_olI, Vi.lent_olI, Vi.closed_olI, Vi.dOf_fz, Vi.dOf_olI, Vi.dOf_olI', Vi.dsOf_fz, Vi.dsOf_ints, Vi.dsOf_nil, Vi.dsOf_cons, Option.map_some, Vi.binD, Vi.add_int, Vi.sub_int, Vi.cmpD, Vi.lt_int, Vi.le_int, Vi.gt_int, Vi.ge_int, Vi.neg_int, Vi.bf_len_l, Vi.bf_len_t, Vi.bf_len_s, Vi.bf_abs, Vi.bf_int, Vi.bf_intb, Vi.bf_max2, Vi.bf_min2, Vi.bf_list_l, Vi.bf_list_t, Vi.bf_tup_l, Vi.bf_sum, Vi.ix_l, Vi.ix_t, Vi.isiD, Vi.chain2_eq, Vi.chainK_b, Vi.iop_add, Vi.iop_sub, Vi.it_l, Vi.it_t, Vi.lentOk, Vi.outs_nil, Vi.outs_fz, Vi.outs_c, List.tail_cons, Vi.killE, Vi.noOwn, Vi.closed, Vi.closeds, Vi.closedD, Vi.closeds_ints, Vi.wipeE, Vi.resE, Vi.bd_nm, Vi.bd_tp, Vi.bdN, Vi.bdT, Vi.bdsN, Vi.bdNil, Vi.bdCons, Vi.Tg.js, Vi.partM, Vi.eq_int, Vi.eq_str, Vi.eq_bool, Vi.eq_ints], by simp -implicitDefEqProofs [b_law_2, Vi.bind_ok, Vi.bind_bad, Vi.bind_ex, Vi.so_ok, Vi.sb_nx, Vi.sb_ret, Vi.sb_bad, Vi.d_fz, Vi.d_olI, Vi.d_ol, Vi.o_some, Vi.tst_b, Vi.tst_i, Vi.tst_l, Vi.tst_s, Vi.tst_n, Vi.oB_some, Vi.oP_some, Vi.oL_some, Vi.rdV_fz, Vi.rdV_ol, Vi.rdV2_some, Vi.mvV_ol, Vi.mvV_fz, Vi.rdVar_c, Vi.ev_var, Vi.ev_mv, Vi.ev_int, Vi.ev_bl, Vi.ev_non, Vi.ev_str, Vi.ev_gi, Vi.ev_gs, Vi.ev_bin, Vi.ev_neg, Vi.ev_cmp, Vi.evT_cmp, Vi.ev_chain, Vi.ev_one, Vi.andK_b, Vi.orK_b, Vi.notK_b, Vi.ev_and, Vi.ev_or, Vi.ev_not, Vi.isB_b, Vi.ev_ite, Vi.ev_tup, Vi.ev_lst, Vi.ev_ix, Vi.ev_slc, Vi.evP_no, Vi.evP_yes, Vi.ev_call, Vi.calK_some, Vi.calR_ok, Vi.evA_nil, Vi.evA_e, Vi.evA_o, Vi.args_nil, Vi.args_e, Vi.args_o, Vi.argK_s, Vi.asm_nil, Vi.asm_e, Vi.asm_o, Vi.asmK_s, Vi.lent_ol, Vi.lent_sc, Vi.lent_fz, Vi.put_nil, Vi.put_e, Vi.put_o, Vi.ev_blt, Vi.ev_isi, Vi.ev_lsc, Vi.lscK_s, Vi.cmpK_ok, Vi.ev_lc, Vi.evC_no, Vi.evC_yes, Vi.evI_e, Vi.evI_r1, Vi.evI_r2, Vi.evs_nil, Vi.evs_cons, Vi.evO_nil, Vi.evO_cons, Vi.olO_s, Vi.olOf_c, Vi.appK_s, Vi.appK2_s, Vi.ev_app, Vi.ev_mt, Vi.evT_mt, Vi.appNK_s, Vi.ev_appN, Vi.inOf_c, Vi.inK_s, Vi.inK2_s, Vi.mvixK_s, Vi.ev_mvix, Vi.ev_rev, Vi.ev_repC, Vi.evT_rev, Vi.evI_en, Vi.evI_rv, Vi.evI_rg, Vi.rgK_s, Vi.asgTK_s, Vi.ex_asgT, Vi.bwsK_nx, Vi.bwsK_ret, Vi.ex_bws, Vi.ex_rais, Vi.tryK_nx, Vi.tryK_ret, Vi.ex_try, Vi.so_ex, Vi.sb_ex, Vi.d_ex, Vi.runK_ex, Vi.calR_ex, Vi.keepE, Vi.cloF, Vi.closedR, Vi.bwK_ok, Vi.ev_bw, Vi.bwK'_ok, Vi.evT_bw, Vi.evT_chain, Vi.evT_one, Vi.evT_and, Vi.evT_or, Vi.evT_not, Vi.evT_var, Vi.evT_call, Vi.evT_isi, Vi.evT_blt, Vi.evT_ix, Vi.evT_bin, Vi.evT_bl, Vi.ex_pass, Vi.ex_asg, Vi.ex_expr, Vi.ex_ret, Vi.ex_retN, Vi.ex_if, Vi.ex_for, Vi.setK_s, Vi.setK2_s, Vi.setK3_s, Vi.ex_set, Vi.ex_aug, Vi.ex_augS, Vi.augM, Vi.augSM, Vi.exs_nil, Vi.exs_cons, Vi.run_b, Vi.runK_ret, Vi.runK_nx, Vi.frzE_nil, Vi.frz_cons, Vi.frzK_ol, Vi.frzK2_s, Vi.frzK_fz, Vi.frzK_no, Vi.frzK_olI, Vi.rdV_olI, Vi.mvV_olI, Vi.olO_olI, Vi.lent_olI, Vi.closed_olI, Vi.dOf_fz, Vi.dOf_olI, Vi.dOf_olI', Vi.dsOf_fz, Vi.dsOf_ints, Vi.dsOf_nil, Vi.dsOf_cons, Option.map_some, Vi.binD, Vi.add_int, Vi.sub_int, Vi.cmpD, Vi.lt_int, Vi.le_int, Vi.gt_int, Vi.ge_int, Vi.neg_int, Vi.bf_len_l, Vi.bf_len_t, Vi.bf_len_s, Vi.bf_abs, Vi.bf_int, Vi.bf_intb, Vi.bf_max2, Vi.bf_min2, Vi.bf_list_l, Vi.bf_list_t, Vi.bf_tup_l, Vi.bf_sum, Vi.ix_l, Vi.ix_t, Vi.isiD, Vi.chain2_eq, Vi.chainK_b, Vi.iop_add, Vi.iop_sub, Vi.it_l, Vi.it_t, Vi.lentOk, Vi.outs_nil, Vi.outs_fz, Vi.outs_c, List.tail_cons, Vi.killE, Vi.noOwn, Vi.closed, Vi.closeds, Vi.closedD, Vi.closeds_ints, Vi.wipeE, Vi.resE, Vi.bd_nm, Vi.bd_tp, Vi.bdN, Vi.bdT, Vi.bdsN, Vi.bdNil, Vi.bdCons, Vi.Tg.js, Vi.partM, Vi.eq_int, Vi.eq_str, Vi.eq_bool, Vi.eq_ints, rho_law, rt, e], o2, _, f2, rfl⟩)
  exact ⟨o', y6, f, h1⟩
theorem turn_ok {a t x3 x4 x5 x6 : Option OV} {o : OV} (ho : IsFeed o) : ∃ (o' : OV) (y3 y4 y5 y6 : Option OV), IsFeed o' ∧ exs rho_law [0] b_law_6 [a, some o, t, x3, x4, x5, x6] = .nx [a, some o', t, y3, y4, y5, y6] := by
  obtain ⟨w, o1, f1, wl, _, d1⟩ := text_ok ho (most := 58) (by decide) (by decide)
  rw [te_eq] at d1
  obtain ⟨r2, o2, d2, l2, u2, f2⟩ := draw_ok f1 (many := 3) (by decide) (by decide)
  obtain ⟨r3, o3, d3, l3, u3, f3⟩ := draw_ok f2 (many := 2) (by decide) (by decide)
  obtain ⟨r4, o4, d4, l4, u4, f4⟩ := draw_ok f3 (many := 5) (by decide) (by decide)
  obtain ⟨r5, o5, d5, l5, u5, f5⟩ := draw_ok f4 (many := 24) (by decide) (by decide)
  rw [dr_eq] at d2 d3 d4 d5
  have e0 := feed_lent ho
  have e1 := feed_lent f1
  have e2 := feed_lent f2
  have e3 := feed_lent f3
  have e4 := feed_lent f4
  have i2 := az_ixI (m := 3) l2 u2
  rw [show tx (az 3) = .str ("abc" : Str) from congrArg PyData.str (by decide)] at i2
  have i3 := az_ixI (m := 2) l3 u3
  rw [show tx (az 2) = .str ("ab" : Str) from congrArg PyData.str (by decide)] at i3
  have sz : 100000 < sizeLine := by decide
  have a1 := app_tx (a := w) (b := [97 + r2.toNat]) (by simp; omega)
  have a2 := app_tx (a := w ++ [97 + r2.toNat]) (b := [97 + r3.toNat]) (by simp; omega)
  generalize hT0 : (w ++ [97 + r2.toNat]) ++ [97 + r3.toNat] = T0 at a2
  have T0l : 2 ≤ T0.length := by rw [← hT0]; simp
  generalize w ++ [97 + r2.toNat] = w1 at a1 a2
  generalize ([97 + r2.toNat] : List Nat) = c2 at i2 a1
  generalize ([97 + r3.toNat] : List Nat) = c3 at i3 a2
  have s0 := slc_t (l := T0) (m := 60)
  have s0' : slcD (tx T0) none (some 60) = some (.fz (tx (T0.take 60))) := s0
  have Tl : 2 ≤ (T0.take 60).length ∧ (T0.take 60).length ≤ 60 := by rw [List.length_take]; omega
  generalize T0.take 60 = T at s0' Tl
  obtain ⟨k4, hk4⟩ : ∃ k : Nat, 2 + r4 = (k : Int) := ⟨(2 + r4).toNat, by omega⟩
  have s4 := slc_t (l := T) (m := k4)
  have Sl : 2 ≤ (T.take k4).length ∧ (T.take k4).length ≤ 60 := by rw [List.length_take]; omega
  generalize T.take k4 = S at s4 Sl
  have mu := Vi.mul_pow (a := S) (k := 30) (by have : 30 * S.length ≤ 30 * 60 := Nat.mul_le_mul_left _ Sl.2; omega) (by decide)
  have mu' : mulD (tx S) (.int 30) = some (.fz (tx (pow 30 S))) := mu
  have Pl : 2 ≤ (pow 30 S).length := by rw [K56.pow_len]; omega
  obtain ⟨k5, hk5⟩ : ∃ k : Nat, 2 + r5 = (k : Int) := ⟨(2 + r5).toNat, by omega⟩
  have s5 := slc_t (l := pow 30 S) (m := k5)
  have Ml : 2 ≤ ((pow 30 S).take k5).length ∧ ((pow 30 S).take k5).length ≤ 60 := by rw [List.length_take]; omega
  generalize (pow 30 S).take k5 = M at s5 Ml
  generalize pow 30 S = P at mu' s5
  have rv := rev_tx (w := T)
  have Rl : T.reverse.length = T.length := List.length_reverse
  generalize T.reverse = R at rv Rl
  obtain ⟨o6, y6, f6, h⟩ := own_loop f5 (ws := [T, R, M, S]) (a := a) (t := t) (x3 := some (.fz (tx T))) (x4 := some (.fz (tx S))) (x5 := some (.fz (tx M))) (x6 := x6) (fun w hw => by
    simp only [List.mem_cons, List.not_mem_nil, or_false] at hw
    rcases hw with rfl | rfl | rfl | rfl <;> omega)
  simp only [List.map_cons, List.map_nil] at h
  have sz4 : 4 ≤ sizeLine := by omega
  refine ⟨o6, some (.fz (tx T)), some (.fz (tx S)), some (.fz (tx M)), y6, f6, ?_⟩
  simp -implicitDefEqProofs [b_law_6, b_law_5, b_law_4, b_law_3, Vi.bind_ok, Vi.bind_bad, Vi.bind_ex, Vi.so_ok, Vi.sb_nx, Vi.sb_ret, Vi.sb_bad, Vi.d_fz, Vi.d_olI, Vi.d_ol, Vi.o_some, Vi.tst_b, Vi.tst_i, Vi.tst_l, Vi.tst_s, Vi.tst_n, Vi.oB_some, Vi.oP_some, Vi.oL_some, Vi.rdV_fz, Vi.rdV_ol, Vi.rdV2_some, Vi.mvV_ol, Vi.mvV_fz, Vi.rdVar_c, Vi.ev_var, Vi.ev_mv, Vi.ev_int, Vi.ev_bl, Vi.ev_non, Vi.ev_str, Vi.ev_gi, Vi.ev_gs, Vi.ev_bin, Vi.ev_neg, Vi.ev_cmp, Vi.evT_cmp, Vi.ev_chain, Vi.ev_one, Vi.andK_b, Vi.orK_b, Vi.notK_b, Vi.ev_and, Vi.ev_or, Vi.ev_not, Vi.isB_b, Vi.ev_ite, Vi.ev_tup, Vi.ev_lst, Vi.ev_ix, Vi.ev_slc, Vi.evP_no, Vi.evP_yes, Vi.ev_call, Vi.calK_some, Vi.calR_ok, Vi.evA_nil, Vi.evA_e, Vi.evA_o, Vi.args_nil, Vi.args_e, Vi.args_o, Vi.argK_s, Vi.asm_nil, Vi.asm_e, Vi.asm_o, Vi.asmK_s, Vi.lent_ol, Vi.lent_sc, Vi.lent_fz, Vi.put_nil, Vi.put_e, Vi.put_o, Vi.ev_blt, Vi.ev_isi, Vi.ev_lsc, Vi.lscK_s, Vi.cmpK_ok, Vi.ev_lc, Vi.evC_no, Vi.evC_yes, Vi.evI_e, Vi.evI_r1, Vi.evI_r2, Vi.evs_nil, Vi.evs_cons, Vi.evO_nil, Vi.evO_cons, Vi.olO_s, Vi.olOf_c, Vi.appK_s, Vi.appK2_s, Vi.ev_app, Vi.ev_mt, Vi.evT_mt, Vi.appNK_s, Vi.ev_appN, Vi.inOf_c, Vi.inK_s, Vi.inK2_s, Vi.mvixK_s, Vi.ev_mvix, Vi.ev_rev, Vi.ev_repC, Vi.evT_rev, Vi.evI_en, Vi.evI_rv, Vi.evI_rg, Vi.rgK_s, Vi.asgTK_s, Vi.ex_asgT, Vi.bwsK_nx, Vi.bwsK_ret, Vi.ex_bws, Vi.ex_rais, Vi.tryK_nx, Vi.tryK_ret, Vi.ex_try, Vi.so_ex, Vi.sb_ex, Vi.d_ex, Vi.runK_ex, Vi.calR_ex, Vi.keepE, Vi.cloF, Vi.closedR, Vi.bwK_ok, Vi.ev_bw, Vi.bwK'_ok, Vi.evT_bw, Vi.evT_chain, Vi.evT_one, Vi.evT_and, Vi.evT_or, Vi.evT_not, Vi.evT_var, Vi.evT_call, Vi.evT_isi, Vi.evT_blt, Vi.evT_ix, Vi.evT_bin, Vi.evT_bl, Vi.ex_pass, Vi.ex_asg, Vi.ex_expr, Vi.ex_ret, Vi.ex_retN, Vi.ex_if, Vi.ex_for, Vi.setK_s, Vi.setK2_s, Vi.setK3_s, Vi.ex_set, Vi.ex_aug, Vi.ex_augS, Vi.augM, Vi.augSM, Vi.exs_nil, Vi.exs_cons, Vi.run_b, Vi.runK_ret, Vi.runK_nx, Vi.frzE_nil, Vi.frz_cons, Vi.frzK_ol, Vi.frzK2_s, Vi.frzK_fz, Vi.frzK_no, Vi.frzK_olI, Vi.rdV_olI, Vi.mvV_olI, Vi.olO_olI, Vi.lent_olI, Vi.closed_olI, Vi.dOf_fz, Vi.dOf_olI, Vi.dOf_olI', Vi.dsOf_fz, Vi.dsOf_ints, Vi.dsOf_nil, Vi.dsOf_cons, Option.map_some, Vi.binD, Vi.add_int, Vi.sub_int, Vi.cmpD, Vi.lt_int, Vi.le_int, Vi.gt_int, Vi.ge_int, Vi.neg_int, Vi.bf_len_l, Vi.bf_len_t, Vi.bf_len_s, Vi.bf_abs, Vi.bf_int, Vi.bf_intb, Vi.bf_max2, Vi.bf_min2, Vi.bf_list_l, Vi.bf_list_t, Vi.bf_tup_l, Vi.bf_sum, Vi.ix_l, Vi.ix_t, Vi.isiD, Vi.chain2_eq, Vi.chainK_b, Vi.iop_add, Vi.iop_sub, Vi.it_l, Vi.it_t, Vi.lentOk, Vi.outs_nil, Vi.outs_fz, Vi.outs_c, List.tail_cons, Vi.killE, Vi.noOwn, Vi.closed, Vi.closeds, Vi.closedD, Vi.closeds_ints, Vi.wipeE, Vi.resE, Vi.bd_nm, Vi.bd_tp, Vi.bdN, Vi.bdT, Vi.bdsN, Vi.bdNil, Vi.bdCons, Vi.Tg.js, Vi.partM, Vi.eq_int, Vi.eq_str, Vi.eq_bool, Vi.eq_ints, rho_law, d1, d2, d3, d4, d5, e0, e1, e2, e3, e4, i2, i3, a1, a2, s0', hk4, s4, mu', hk5, s5, rv, h, sz4]
theorem end_ok {x : Option OV} {E : Vi.Env} : exs rho_law [0] b_law_1 (x :: E) = .ret (.fz (.bool true)) (x :: E) := by
  have t1 : den_near_periods [.fz (.str ("abaab" : Str))] = .ok (iO [2, 3, 1, 3]) [none] := by
    rw [show ("abaab" : Str) = tS [97, 98, 97, 97, 98] by decide]
    have := ok_nears (l := [97, 98, 97, 97, 98]) (by decide) (by decide)
    rw [show nearL [97, 98, 97, 97, 98] = [2, 3, 1, 3] by decide] at this
    exact this
  have t2 : den_breaks_at [.fz (.str ("abaab" : Str))] = .ok (iO [2, 4]) [none] := by
    rw [show ("abaab" : Str) = tS [97, 98, 97, 97, 98] by decide]
    have := ok_breaks (l := [97, 98, 97, 97, 98]) (by decide) (by decide)
    rw [show brkL [97, 98, 97, 97, 98] = [2, 4] by decide] at this
    exact this
  have t3 : den_near_periods [.fz (.str ("aaa" : Str))] = .ok (iO [1, 1]) [none] := by
    rw [show ("aaa" : Str) = tS [97, 97, 97] by decide]
    have := ok_nears (l := [97, 97, 97]) (by decide) (by decide)
    rw [show nearL [97, 97, 97] = [1, 1] by decide] at this
    exact this
  have t4 : den_breaks_at [.fz (.str ("ab" : Str))] = .ok (iO [1]) [none] := by
    rw [show ("ab" : Str) = tS [97, 98] by decide]
    have := ok_breaks (l := [97, 98]) (by decide) (by decide)
    rw [show brkL [97, 98] = [1] by decide] at this
    exact this
  have t5 : den_near_period [.fz (.str ("aab" : Str)), .fz (.int 1)] = .ok (.fz (.int 1)) [none, none] := by
    rw [show ("aab" : Str) = tS [97, 97, 98] by decide]
    have := ok_near (l := [97, 97, 98]) (by decide) (by decide) (k := 1) (by decide)
    rw [show nearV [97, 97, 98] 1 = 1 by decide] at this
    exact this
  have m1 := same2 (a := [2, 3, 1, 3]) (b := [2, 4]) (by decide) (by decide)
  have m2 : den__law_same [.fz (.list [iL [1, 1], iL [1], .int 1]), .fz (.list [iL [1, 1], iL [1], .int 1])] = .ok (.fz (.bool true)) [none, none] := by
    rw [← sa_eq]
    refine same_ok 8 _ ⟨by simp, fun d hd => ?_⟩
    simp only [List.mem_cons, List.not_mem_nil, or_false] at hd
    rcases hd with rfl | rfl | rfl
    · exact okS_ints (n := 5) (by decide)
    · exact okS_ints (n := 5) (by decide)
    · exact trivial
  have sz4 : 4 ≤ sizeLine := by decide
  have sz3 : 3 ≤ sizeLine := by decide
  have sz2 : 2 ≤ sizeLine := by decide
  have sz1 : 1 ≤ sizeLine := by decide
  simp only [iL, iO, List.map_cons, List.map_nil] at t1 t2 t3 t4 m1 m2
  simp -implicitDefEqProofs at t1 t2 t3 t4 m1 m2
  simp -implicitDefEqProofs [b_law_1, b_law_0, Vi.bind_ok, Vi.bind_bad, Vi.bind_ex, Vi.so_ok, Vi.sb_nx, Vi.sb_ret, Vi.sb_bad, Vi.d_fz, Vi.d_olI, Vi.d_ol, Vi.o_some, Vi.tst_b, Vi.tst_i, Vi.tst_l, Vi.tst_s, Vi.tst_n, Vi.oB_some, Vi.oP_some, Vi.oL_some, Vi.rdV_fz, Vi.rdV_ol, Vi.rdV2_some, Vi.mvV_ol, Vi.mvV_fz, Vi.rdVar_c, Vi.ev_var, Vi.ev_mv, Vi.ev_int, Vi.ev_bl, Vi.ev_non, Vi.ev_str, Vi.ev_gi, Vi.ev_gs, Vi.ev_bin, Vi.ev_neg, Vi.ev_cmp, Vi.evT_cmp, Vi.ev_chain, Vi.ev_one, Vi.andK_b, Vi.orK_b, Vi.notK_b, Vi.ev_and, Vi.ev_or, Vi.ev_not, Vi.isB_b, Vi.ev_ite, Vi.ev_tup, Vi.ev_lst, Vi.ev_ix, Vi.ev_slc, Vi.evP_no, Vi.evP_yes, Vi.ev_call, Vi.calK_some, Vi.calR_ok, Vi.evA_nil, Vi.evA_e, Vi.evA_o, Vi.args_nil, Vi.args_e, Vi.args_o, Vi.argK_s, Vi.asm_nil, Vi.asm_e, Vi.asm_o, Vi.asmK_s, Vi.lent_ol, Vi.lent_sc, Vi.lent_fz, Vi.put_nil, Vi.put_e, Vi.put_o, Vi.ev_blt, Vi.ev_isi, Vi.ev_lsc, Vi.lscK_s, Vi.cmpK_ok, Vi.ev_lc, Vi.evC_no, Vi.evC_yes, Vi.evI_e, Vi.evI_r1, Vi.evI_r2, Vi.evs_nil, Vi.evs_cons, Vi.evO_nil, Vi.evO_cons, Vi.olO_s, Vi.olOf_c, Vi.appK_s, Vi.appK2_s, Vi.ev_app, Vi.ev_mt, Vi.evT_mt, Vi.appNK_s, Vi.ev_appN, Vi.inOf_c, Vi.inK_s, Vi.inK2_s, Vi.mvixK_s, Vi.ev_mvix, Vi.ev_rev, Vi.ev_repC, Vi.evT_rev, Vi.evI_en, Vi.evI_rv, Vi.evI_rg, Vi.rgK_s, Vi.asgTK_s, Vi.ex_asgT, Vi.bwsK_nx, Vi.bwsK_ret, Vi.ex_bws, Vi.ex_rais, Vi.tryK_nx, Vi.tryK_ret, Vi.ex_try, Vi.so_ex, Vi.sb_ex, Vi.d_ex, Vi.runK_ex, Vi.calR_ex, Vi.keepE, Vi.cloF, Vi.closedR, Vi.bwK_ok, Vi.ev_bw, Vi.bwK'_ok, Vi.evT_bw, Vi.evT_chain, Vi.evT_one, Vi.evT_and, Vi.evT_or, Vi.evT_not, Vi.evT_var, Vi.evT_call, Vi.evT_isi, Vi.evT_blt, Vi.evT_ix, Vi.evT_bin, Vi.evT_bl, Vi.ex_pass, Vi.ex_asg, Vi.ex_expr, Vi.ex_ret, Vi.ex_retN, Vi.ex_if, Vi.ex_for, Vi.setK_s, Vi.setK2_s, Vi.setK3_s, Vi.ex_set, Vi.ex_aug, Vi.ex_augS, Vi.augM, Vi.augSM, Vi.exs_nil, Vi.exs_cons, Vi.run_b, Vi.runK_ret, Vi.runK_nx, Vi.frzE_nil, Vi.frz_cons, Vi.frzK_ol, Vi.frzK2_s, Vi.frzK_fz, Vi.frzK_no, Vi.frzK_olI, Vi.rdV_olI, Vi.mvV_olI, Vi.olO_olI, Vi.lent_olI, Vi.closed_olI, Vi.dOf_fz, Vi.dOf_olI, Vi.dOf_olI', Vi.dsOf_fz, Vi.dsOf_ints, Vi.dsOf_nil, Vi.dsOf_cons, Option.map_some, Vi.binD, Vi.add_int, Vi.sub_int, Vi.cmpD, Vi.lt_int, Vi.le_int, Vi.gt_int, Vi.ge_int, Vi.neg_int, Vi.bf_len_l, Vi.bf_len_t, Vi.bf_len_s, Vi.bf_abs, Vi.bf_int, Vi.bf_intb, Vi.bf_max2, Vi.bf_min2, Vi.bf_list_l, Vi.bf_list_t, Vi.bf_tup_l, Vi.bf_sum, Vi.ix_l, Vi.ix_t, Vi.isiD, Vi.chain2_eq, Vi.chainK_b, Vi.iop_add, Vi.iop_sub, Vi.it_l, Vi.it_t, Vi.lentOk, Vi.outs_nil, Vi.outs_fz, Vi.outs_c, List.tail_cons, Vi.killE, Vi.noOwn, Vi.closed, Vi.closeds, Vi.closedD, Vi.closeds_ints, Vi.wipeE, Vi.resE, Vi.bd_nm, Vi.bd_tp, Vi.bdN, Vi.bdT, Vi.bdsN, Vi.bdNil, Vi.bdCons, Vi.Tg.js, Vi.partM, Vi.eq_int, Vi.eq_str, Vi.eq_bool, Vi.eq_ints, rho_law, t1, t2, t3, t4, t5, m1, m2, dOf, dsOf, sz1, sz2, sz3, sz4]
theorem law_true (ns : List Int) (h : ns.length ≤ 63) : ∃ outs, den_law [.sc ns] = .ok (.fz (.bool true)) outs := by
  obtain ⟨o, a, hf, f0⟩ := feed_ok ns h
  have hf : den__law_feed [.sc ns] = .ok o [a] := hf
  have rr : rngD [.int 4] = some ((rgI 0 4).map .int) := by rw [← rngL_eq]; exact rng_1 (by decide) (by decide)
  obtain ⟨env, f1, y, o', t, x3, x4, x5, x6, fo, rfl⟩ := forL_inv (bd := bdG (.nm 2)) (mb := exs rho_law [0] b_law_6) (g := PyData.int) (fun _ env => ∃ (y : Option OV) (o' : OV) (t x3 x4 x5 x6 : Option OV), IsFeed o' ∧ env = [y, some o', t, x3, x4, x5, x6]) (rgI 0 4) [] [a, some o, none, none, none, none, none] ⟨a, o, none, none, none, none, none, f0, rfl⟩
    (by
      rintro d x r env _ ⟨y, o', t, x3, x4, x5, x6, fo, rfl⟩
      obtain ⟨o2, y3, y4, y5, y6, fo', h⟩ := turn_ok (a := y) (t := some (.fz (.int x))) (x3 := x3) (x4 := x4) (x5 := x5) (x6 := x6) fo
      exact ⟨[y, some o', some (.fz (.int x)), x3, x4, x5, x6], _, by simp [Vi.bind_ok, Vi.bind_bad, Vi.bind_ex, Vi.so_ok, Vi.sb_nx, Vi.sb_ret, Vi.sb_bad, Vi.d_fz, Vi.d_olI, Vi.d_ol, Vi.o_some, Vi.tst_b, Vi.tst_i, Vi.tst_l, Vi.tst_s, Vi.tst_n, Vi.oB_some, Vi.oP_some, Vi.oL_some, Vi.rdV_fz, Vi.rdV_ol, Vi.rdV2_some, Vi.mvV_ol, Vi.mvV_fz, Vi.rdVar_c, Vi.ev_var, Vi.ev_mv, Vi.ev_int, Vi.ev_bl, Vi.ev_non, Vi.ev_str, Vi.ev_gi, Vi.ev_gs, Vi.ev_bin, Vi.ev_neg, Vi.ev_cmp, Vi.evT_cmp, Vi.ev_chain, Vi.ev_one, Vi.andK_b, Vi.orK_b, Vi.notK_b, Vi.ev_and, Vi.ev_or, Vi.ev_not, Vi.isB_b, Vi.ev_ite, Vi.ev_tup, Vi.ev_lst, Vi.ev_ix, Vi.ev_slc, Vi.evP_no, Vi.evP_yes, Vi.ev_call, Vi.calK_some, Vi.calR_ok, Vi.evA_nil, Vi.evA_e, Vi.evA_o, Vi.args_nil, Vi.args_e, Vi.args_o, Vi.argK_s, Vi.asm_nil, Vi.asm_e, Vi.asm_o, Vi.asmK_s, Vi.lent_ol, Vi.lent_sc, Vi.lent_fz, Vi.put_nil, Vi.put_e, Vi.put_o, Vi.ev_blt, Vi.ev_isi, Vi.ev_lsc, Vi.lscK_s, Vi.cmpK_ok, Vi.ev_lc, Vi.evC_no, Vi.evC_yes, Vi.evI_e, Vi.evI_r1, Vi.evI_r2, Vi.evs_nil, Vi.evs_cons, Vi.evO_nil, Vi.evO_cons, Vi.olO_s, Vi.olOf_c, Vi.appK_s, Vi.appK2_s, Vi.ev_app, Vi.ev_mt, Vi.evT_mt, Vi.appNK_s, Vi.ev_appN, Vi.inOf_c, Vi.inK_s, Vi.inK2_s, Vi.mvixK_s, Vi.ev_mvix, Vi.ev_rev, Vi.ev_repC, Vi.evT_rev, Vi.evI_en, Vi.evI_rv, Vi.evI_rg, Vi.rgK_s, Vi.asgTK_s, Vi.ex_asgT, Vi.bwsK_nx, Vi.bwsK_ret, Vi.ex_bws, Vi.ex_rais, Vi.tryK_nx, Vi.tryK_ret, Vi.ex_try, Vi.so_ex, Vi.sb_ex, Vi.d_ex, Vi.runK_ex, Vi.calR_ex, Vi.keepE, Vi.cloF, Vi.closedR, Vi.bwK_ok, Vi.ev_bw, Vi.bwK'_ok, Vi.evT_bw, Vi.evT_chain, Vi.evT_one, Vi.evT_and, Vi.evT_or, Vi.evT_not, Vi.evT_var, Vi.evT_call, Vi.evT_isi, Vi.evT_blt, Vi.evT_ix, Vi.evT_bin, Vi.evT_bl, Vi.ex_pass, Vi.ex_asg, Vi.ex_expr, Vi.ex_ret, Vi.ex_retN, Vi.ex_if, Vi.ex_for, Vi.setK_s, Vi.setK2_s, Vi.setK3_s, Vi.ex_set, Vi.ex_aug, Vi.ex_augS, Vi.augM, Vi.augSM, Vi.exs_nil, Vi.exs_cons, Vi.run_b, Vi.runK_ret, Vi.runK_nx, Vi.frzE_nil, Vi.frz_cons, Vi.frzK_ol, Vi.frzK2_s, Vi.frzK_fz, Vi.frzK_no, Vi.frzK_olI, Vi.rdV_olI, Vi.mvV_olI, Vi.olO_olI, Vi.lent_olI, Vi.closed_olI, Vi.dOf_fz, Vi.dOf_olI, Vi.dOf_olI', Vi.dsOf_fz, Vi.dsOf_ints, Vi.dsOf_nil, Vi.dsOf_cons, Option.map_some, Vi.binD, Vi.add_int, Vi.sub_int, Vi.cmpD, Vi.lt_int, Vi.le_int, Vi.gt_int, Vi.ge_int, Vi.neg_int, Vi.bf_len_l, Vi.bf_len_t, Vi.bf_len_s, Vi.bf_abs, Vi.bf_int, Vi.bf_intb, Vi.bf_max2, Vi.bf_min2, Vi.bf_list_l, Vi.bf_list_t, Vi.bf_tup_l, Vi.bf_sum, Vi.ix_l, Vi.ix_t, Vi.isiD, Vi.chain2_eq, Vi.chainK_b, Vi.iop_add, Vi.iop_sub, Vi.it_l, Vi.it_t, Vi.lentOk, Vi.outs_nil, Vi.outs_fz, Vi.outs_c, List.tail_cons, Vi.killE, Vi.noOwn, Vi.closed, Vi.closeds, Vi.closedD, Vi.closeds_ints, Vi.wipeE, Vi.resE, Vi.bd_nm, Vi.bd_tp, Vi.bdN, Vi.bdT, Vi.bdsN, Vi.bdNil, Vi.bdCons, Vi.Tg.js, Vi.partM, Vi.eq_int, Vi.eq_str, Vi.eq_bool, Vi.eq_ints], h, y, o2, _, _, _, _, _, fo', rfl⟩)
  have h3 := end_ok (x := y) (E := [some o', t, x3, x4, x5, x6])
  exact ⟨[y], by simp -implicitDefEqProofs [den_law, bod_law, b_law_8, b_law_7, Vi.bind_ok, Vi.bind_bad, Vi.bind_ex, Vi.so_ok, Vi.sb_nx, Vi.sb_ret, Vi.sb_bad, Vi.d_fz, Vi.d_olI, Vi.d_ol, Vi.o_some, Vi.tst_b, Vi.tst_i, Vi.tst_l, Vi.tst_s, Vi.tst_n, Vi.oB_some, Vi.oP_some, Vi.oL_some, Vi.rdV_fz, Vi.rdV_ol, Vi.rdV2_some, Vi.mvV_ol, Vi.mvV_fz, Vi.rdVar_c, Vi.ev_var, Vi.ev_mv, Vi.ev_int, Vi.ev_bl, Vi.ev_non, Vi.ev_str, Vi.ev_gi, Vi.ev_gs, Vi.ev_bin, Vi.ev_neg, Vi.ev_cmp, Vi.evT_cmp, Vi.ev_chain, Vi.ev_one, Vi.andK_b, Vi.orK_b, Vi.notK_b, Vi.ev_and, Vi.ev_or, Vi.ev_not, Vi.isB_b, Vi.ev_ite, Vi.ev_tup, Vi.ev_lst, Vi.ev_ix, Vi.ev_slc, Vi.evP_no, Vi.evP_yes, Vi.ev_call, Vi.calK_some, Vi.calR_ok, Vi.evA_nil, Vi.evA_e, Vi.evA_o, Vi.args_nil, Vi.args_e, Vi.args_o, Vi.argK_s, Vi.asm_nil, Vi.asm_e, Vi.asm_o, Vi.asmK_s, Vi.lent_ol, Vi.lent_sc, Vi.lent_fz, Vi.put_nil, Vi.put_e, Vi.put_o, Vi.ev_blt, Vi.ev_isi, Vi.ev_lsc, Vi.lscK_s, Vi.cmpK_ok, Vi.ev_lc, Vi.evC_no, Vi.evC_yes, Vi.evI_e, Vi.evI_r1, Vi.evI_r2, Vi.evs_nil, Vi.evs_cons, Vi.evO_nil, Vi.evO_cons, Vi.olO_s, Vi.olOf_c, Vi.appK_s, Vi.appK2_s, Vi.ev_app, Vi.ev_mt, Vi.evT_mt, Vi.appNK_s, Vi.ev_appN, Vi.inOf_c, Vi.inK_s, Vi.inK2_s, Vi.mvixK_s, Vi.ev_mvix, Vi.ev_rev, Vi.ev_repC, Vi.evT_rev, Vi.evI_en, Vi.evI_rv, Vi.evI_rg, Vi.rgK_s, Vi.asgTK_s, Vi.ex_asgT, Vi.bwsK_nx, Vi.bwsK_ret, Vi.ex_bws, Vi.ex_rais, Vi.tryK_nx, Vi.tryK_ret, Vi.ex_try, Vi.so_ex, Vi.sb_ex, Vi.d_ex, Vi.runK_ex, Vi.calR_ex, Vi.keepE, Vi.cloF, Vi.closedR, Vi.bwK_ok, Vi.ev_bw, Vi.bwK'_ok, Vi.evT_bw, Vi.evT_chain, Vi.evT_one, Vi.evT_and, Vi.evT_or, Vi.evT_not, Vi.evT_var, Vi.evT_call, Vi.evT_isi, Vi.evT_blt, Vi.evT_ix, Vi.evT_bin, Vi.evT_bl, Vi.ex_pass, Vi.ex_asg, Vi.ex_expr, Vi.ex_ret, Vi.ex_retN, Vi.ex_if, Vi.ex_for, Vi.setK_s, Vi.setK2_s, Vi.setK3_s, Vi.ex_set, Vi.ex_aug, Vi.ex_augS, Vi.augM, Vi.augSM, Vi.exs_nil, Vi.exs_cons, Vi.run_b, Vi.runK_ret, Vi.runK_nx, Vi.frzE_nil, Vi.frz_cons, Vi.frzK_ol, Vi.frzK2_s, Vi.frzK_fz, Vi.frzK_no, Vi.frzK_olI, Vi.rdV_olI, Vi.mvV_olI, Vi.olO_olI, Vi.lent_olI, Vi.closed_olI, Vi.dOf_fz, Vi.dOf_olI, Vi.dOf_olI', Vi.dsOf_fz, Vi.dsOf_ints, Vi.dsOf_nil, Vi.dsOf_cons, Option.map_some, Vi.binD, Vi.add_int, Vi.sub_int, Vi.cmpD, Vi.lt_int, Vi.le_int, Vi.gt_int, Vi.ge_int, Vi.neg_int, Vi.bf_len_l, Vi.bf_len_t, Vi.bf_len_s, Vi.bf_abs, Vi.bf_int, Vi.bf_intb, Vi.bf_max2, Vi.bf_min2, Vi.bf_list_l, Vi.bf_list_t, Vi.bf_tup_l, Vi.bf_sum, Vi.ix_l, Vi.ix_t, Vi.isiD, Vi.chain2_eq, Vi.chainK_b, Vi.iop_add, Vi.iop_sub, Vi.it_l, Vi.it_t, Vi.lentOk, Vi.outs_nil, Vi.outs_fz, Vi.outs_c, List.tail_cons, Vi.killE, Vi.noOwn, Vi.closed, Vi.closeds, Vi.closedD, Vi.closeds_ints, Vi.wipeE, Vi.resE, Vi.bd_nm, Vi.bd_tp, Vi.bdN, Vi.bdT, Vi.bdsN, Vi.bdNil, Vi.bdCons, Vi.Tg.js, Vi.partM, Vi.eq_int, Vi.eq_str, Vi.eq_bool, Vi.eq_ints, rho_law, hf, rr, f1, h3]⟩
end K17

set_option Elab.async false
set_option linter.all false
set_option maxRecDepth 100000
set_option maxHeartbeats 4000000
namespace K17
open Vi
end K17
namespace K17
open PySem PySem.Spec PyProof.Rows Vi L2
def top (i : Nat) : Stmt := PySem.Challenge.pw_turnedstretches_k17_whole_breaks_of_text.main.body.getD i (.Pass ⟨0, 0, 0, 0⟩)
abbrev s_has_period : Stmt := top 1
theorem sc_has_period : FnScope tab_has_period.N ["text", "p"] (defScope s_has_period) := ⟨rfl, rfl, rfl, by decide +kernel, rfl, by decide +kernel, by decide +kernel⟩
theorem mm_has_period : mSs tab_has_period (defScope s_has_period) (fun _ => true) bod_has_period (defBody s_has_period) = true := by decide +kernel
abbrev s_periods_of : Stmt := top 2
theorem sc_periods_of : FnScope tab_periods_of.N ["text"] (defScope s_periods_of) := ⟨rfl, rfl, rfl, by decide +kernel, rfl, by decide +kernel, by decide +kernel⟩
theorem mm_periods_of : mSs tab_periods_of (defScope s_periods_of) (fun _ => true) bod_periods_of (defBody s_periods_of) = true := by decide +kernel
abbrev s_is_near_period : Stmt := top 4
theorem sc_is_near_period : FnScope tab_is_near_period.N ["text", "k", "p"] (defScope s_is_near_period) := ⟨rfl, rfl, rfl, by decide +kernel, rfl, by decide +kernel, by decide +kernel⟩
theorem mm_is_near_period : mSs tab_is_near_period (defScope s_is_near_period) (fun _ => true) bod_is_near_period (defBody s_is_near_period) = true := by decide +kernel
abbrev s_near_period : Stmt := top 5
theorem sc_near_period : FnScope tab_near_period.N ["text", "k"] (defScope s_near_period) := ⟨rfl, rfl, rfl, by decide +kernel, rfl, by decide +kernel, by decide +kernel⟩
theorem mm_near_period : mSs tab_near_period (defScope s_near_period) (fun _ => true) bod_near_period (defBody s_near_period) = true := by decide +kernel
abbrev s_near_periods : Stmt := top 6
theorem sc_near_periods : FnScope tab_near_periods.N ["text"] (defScope s_near_periods) := ⟨rfl, rfl, rfl, by decide +kernel, rfl, by decide +kernel, by decide +kernel⟩
theorem mm_near_periods : mSs tab_near_periods (defScope s_near_periods) (fun _ => true) bod_near_periods (defBody s_near_periods) = true := by decide +kernel
abbrev s_breaks_at : Stmt := top 7
theorem sc_breaks_at : FnScope tab_breaks_at.N ["text"] (defScope s_breaks_at) := ⟨rfl, rfl, rfl, by decide +kernel, rfl, by decide +kernel, by decide +kernel⟩
theorem mm_breaks_at : mSs tab_breaks_at (defScope s_breaks_at) (fun _ => true) bod_breaks_at (defBody s_breaks_at) = true := by decide +kernel
abbrev s__law_feed : Stmt := top 9
theorem sc__law_feed : FnScope tab__law_feed.N ["script"] (defScope s__law_feed) := ⟨rfl, rfl, rfl, by decide +kernel, rfl, by decide +kernel, by decide +kernel⟩
theorem mm__law_feed : mSs tab__law_feed (defScope s__law_feed) (fun _ => true) bod__law_feed (defBody s__law_feed) = true := by decide +kernel
abbrev s__law_draw : Stmt := top 10
theorem sc__law_draw : FnScope tab__law_draw.N ["feed", "many"] (defScope s__law_draw) := ⟨rfl, rfl, rfl, by decide +kernel, rfl, by decide +kernel, by decide +kernel⟩
theorem mm__law_draw : mSs tab__law_draw (defScope s__law_draw) (fun _ => true) bod__law_draw (defBody s__law_draw) = true := by decide +kernel
abbrev s__law_same : Stmt := top 11
theorem sc__law_same : FnScope tab__law_same.N ["actual", "due"] (defScope s__law_same) := ⟨rfl, rfl, rfl, by decide +kernel, rfl, by decide +kernel, by decide +kernel⟩
theorem mm__law_same : mSs tab__law_same (defScope s__law_same) (fun _ => true) bod__law_same (defBody s__law_same) = true := by decide +kernel
abbrev s__law_text : Stmt := top 12
theorem sc__law_text : FnScope tab__law_text.N ["feed", "most"] (defScope s__law_text) := ⟨rfl, rfl, rfl, by decide +kernel, rfl, by decide +kernel, by decide +kernel⟩
theorem mm__law_text : mSs tab__law_text (defScope s__law_text) (fun _ => true) bod__law_text (defBody s__law_text) = true := by decide +kernel
abbrev s__law_near : Stmt := top 13
theorem sc__law_near : FnScope tab__law_near.N ["text", "k"] (defScope s__law_near) := ⟨rfl, rfl, rfl, by decide +kernel, rfl, by decide +kernel, by decide +kernel⟩
theorem mm__law_near : mSs tab__law_near (defScope s__law_near) (fun _ => true) bod__law_near (defBody s__law_near) = true := by decide +kernel
abbrev s__law_least_period : Stmt := top 14
theorem sc__law_least_period : FnScope tab__law_least_period.N ["text"] (defScope s__law_least_period) := ⟨rfl, rfl, rfl, by decide +kernel, rfl, by decide +kernel, by decide +kernel⟩
theorem mm__law_least_period : mSs tab__law_least_period (defScope s__law_least_period) (fun _ => true) bod__law_least_period (defBody s__law_least_period) = true := by decide +kernel
abbrev s__law_right : Stmt := top 15
theorem sc__law_right : FnScope tab__law_right.N ["feed", "text"] (defScope s__law_right) := ⟨rfl, rfl, rfl, by decide +kernel, rfl, by decide +kernel, by decide +kernel⟩
theorem mm__law_right : mSs tab__law_right (defScope s__law_right) (fun _ => true) bod__law_right (defBody s__law_right) = true := by decide +kernel
abbrev s_law : Stmt := top 16
theorem sc_law : FnScope tab_law.N ["script"] (defScope s_law) := ⟨rfl, rfl, rfl, by decide +kernel, rfl, by decide +kernel, by decide +kernel⟩
theorem mm_law : mSs tab_law (defScope s_law) (fun _ => true) bod_law (defBody s_law) = true := by decide +kernel
theorem all_mk {l : PySem.W.OpenLaw} {w : World} {K : PySem.W.Frag} {h : Heap} {mg : Str → Option Value} {fa : Addr} (X : K.In h) (G : h.Ns mainGlobals mg) (hfa : mg "law" = some (.ref fa))
    {f0 : Addr} {od0 an0 : Option Addr} {sl0 : Array (Option Value)} {oc0 kV0 dc0 pm0 cd0 ct0 : Value}
    {f1 : Addr} {od1 an1 : Option Addr} {sl1 : Array (Option Value)} {oc1 kV1 dc1 pm1 cd1 ct1 : Value}
    {f2 : Addr} {od2 an2 : Option Addr} {sl2 : Array (Option Value)} {oc2 kV2 dc2 pm2 cd2 ct2 : Value}
    {f3 : Addr} {od3 an3 : Option Addr} {sl3 : Array (Option Value)} {oc3 kV3 dc3 pm3 cd3 ct3 : Value}
    {f4 : Addr} {od4 an4 : Option Addr} {sl4 : Array (Option Value)} {oc4 kV4 dc4 pm4 cd4 ct4 : Value}
    {f5 : Addr} {od5 an5 : Option Addr} {sl5 : Array (Option Value)} {oc5 kV5 dc5 pm5 cd5 ct5 : Value}
    {f6 : Addr} {od6 an6 : Option Addr} {sl6 : Array (Option Value)} {oc6 kV6 dc6 pm6 cd6 ct6 : Value}
    {f7 : Addr} {od7 an7 : Option Addr} {sl7 : Array (Option Value)} {oc7 kV7 dc7 pm7 cd7 ct7 : Value}
    {f8 : Addr} {od8 an8 : Option Addr} {sl8 : Array (Option Value)} {oc8 kV8 dc8 pm8 cd8 ct8 : Value}
    {f9 : Addr} {od9 an9 : Option Addr} {sl9 : Array (Option Value)} {oc9 kV9 dc9 pm9 cd9 ct9 : Value}
    {f10 : Addr} {od10 an10 : Option Addr} {sl10 : Array (Option Value)} {oc10 kV10 dc10 pm10 cd10 ct10 : Value}
    {f11 : Addr} {od11 an11 : Option Addr} {sl11 : Array (Option Value)} {oc11 kV11 dc11 pm11 cd11 ct11 : Value}
    {f12 : Addr} {od12 an12 : Option Addr} {sl12 : Array (Option Value)} {oc12 kV12 dc12 pm12 cd12 ct12 : Value}
    {f13 : Addr} {od13 an13 : Option Addr} {sl13 : Array (Option Value)} {oc13 kV13 dc13 pm13 cd13 ct13 : Value}
    (a0 : PySem.W.nsIn K mainGlobals "has_period" = some (some (.ref f0)))
    (l0 : K.lookup f0 = some ⟨oc0, od0, .func (PySem.W.fnOf "has_period" "has_period" (defArgs s_has_period) (defBody s_has_period) (defScope s_has_period) .none kV0 dc0 pm0 an0 cd0 ct0), sl0⟩)
    (c0 : PySem.W.codeIn K cd0 "has_period" = true)
    (k0 : PySem.W.keepIn K (.ref f0) = true)
    (a1 : PySem.W.nsIn K mainGlobals "periods_of" = some (some (.ref f1)))
    (l1 : K.lookup f1 = some ⟨oc1, od1, .func (PySem.W.fnOf "periods_of" "periods_of" (defArgs s_periods_of) (defBody s_periods_of) (defScope s_periods_of) .none kV1 dc1 pm1 an1 cd1 ct1), sl1⟩)
    (c1 : PySem.W.codeIn K cd1 "periods_of" = true)
    (k1 : PySem.W.keepIn K (.ref f1) = true)
    (a2 : PySem.W.nsIn K mainGlobals "is_near_period" = some (some (.ref f2)))
    (l2 : K.lookup f2 = some ⟨oc2, od2, .func (PySem.W.fnOf "is_near_period" "is_near_period" (defArgs s_is_near_period) (defBody s_is_near_period) (defScope s_is_near_period) .none kV2 dc2 pm2 an2 cd2 ct2), sl2⟩)
    (c2 : PySem.W.codeIn K cd2 "is_near_period" = true)
    (k2 : PySem.W.keepIn K (.ref f2) = true)
    (a3 : PySem.W.nsIn K mainGlobals "near_period" = some (some (.ref f3)))
    (l3 : K.lookup f3 = some ⟨oc3, od3, .func (PySem.W.fnOf "near_period" "near_period" (defArgs s_near_period) (defBody s_near_period) (defScope s_near_period) .none kV3 dc3 pm3 an3 cd3 ct3), sl3⟩)
    (c3 : PySem.W.codeIn K cd3 "near_period" = true)
    (k3 : PySem.W.keepIn K (.ref f3) = true)
    (a4 : PySem.W.nsIn K mainGlobals "near_periods" = some (some (.ref f4)))
    (l4 : K.lookup f4 = some ⟨oc4, od4, .func (PySem.W.fnOf "near_periods" "near_periods" (defArgs s_near_periods) (defBody s_near_periods) (defScope s_near_periods) .none kV4 dc4 pm4 an4 cd4 ct4), sl4⟩)
    (c4 : PySem.W.codeIn K cd4 "near_periods" = true)
    (k4 : PySem.W.keepIn K (.ref f4) = true)
    (a5 : PySem.W.nsIn K mainGlobals "breaks_at" = some (some (.ref f5)))
    (l5 : K.lookup f5 = some ⟨oc5, od5, .func (PySem.W.fnOf "breaks_at" "breaks_at" (defArgs s_breaks_at) (defBody s_breaks_at) (defScope s_breaks_at) .none kV5 dc5 pm5 an5 cd5 ct5), sl5⟩)
    (c5 : PySem.W.codeIn K cd5 "breaks_at" = true)
    (k5 : PySem.W.keepIn K (.ref f5) = true)
    (a6 : PySem.W.nsIn K mainGlobals "_law_feed" = some (some (.ref f6)))
    (l6 : K.lookup f6 = some ⟨oc6, od6, .func (PySem.W.fnOf "_law_feed" "_law_feed" (defArgs s__law_feed) (defBody s__law_feed) (defScope s__law_feed) .none kV6 dc6 pm6 an6 cd6 ct6), sl6⟩)
    (c6 : PySem.W.codeIn K cd6 "_law_feed" = true)
    (k6 : PySem.W.keepIn K (.ref f6) = true)
    (a7 : PySem.W.nsIn K mainGlobals "_law_draw" = some (some (.ref f7)))
    (l7 : K.lookup f7 = some ⟨oc7, od7, .func (PySem.W.fnOf "_law_draw" "_law_draw" (defArgs s__law_draw) (defBody s__law_draw) (defScope s__law_draw) .none kV7 dc7 pm7 an7 cd7 ct7), sl7⟩)
    (c7 : PySem.W.codeIn K cd7 "_law_draw" = true)
    (k7 : PySem.W.keepIn K (.ref f7) = true)
    (a8 : PySem.W.nsIn K mainGlobals "_law_same" = some (some (.ref f8)))
    (l8 : K.lookup f8 = some ⟨oc8, od8, .func (PySem.W.fnOf "_law_same" "_law_same" (defArgs s__law_same) (defBody s__law_same) (defScope s__law_same) .none kV8 dc8 pm8 an8 cd8 ct8), sl8⟩)
    (c8 : PySem.W.codeIn K cd8 "_law_same" = true)
    (k8 : PySem.W.keepIn K (.ref f8) = true)
    (a9 : PySem.W.nsIn K mainGlobals "_law_text" = some (some (.ref f9)))
    (l9 : K.lookup f9 = some ⟨oc9, od9, .func (PySem.W.fnOf "_law_text" "_law_text" (defArgs s__law_text) (defBody s__law_text) (defScope s__law_text) .none kV9 dc9 pm9 an9 cd9 ct9), sl9⟩)
    (c9 : PySem.W.codeIn K cd9 "_law_text" = true)
    (k9 : PySem.W.keepIn K (.ref f9) = true)
    (a10 : PySem.W.nsIn K mainGlobals "_law_near" = some (some (.ref f10)))
    (l10 : K.lookup f10 = some ⟨oc10, od10, .func (PySem.W.fnOf "_law_near" "_law_near" (defArgs s__law_near) (defBody s__law_near) (defScope s__law_near) .none kV10 dc10 pm10 an10 cd10 ct10), sl10⟩)
    (c10 : PySem.W.codeIn K cd10 "_law_near" = true)
    (k10 : PySem.W.keepIn K (.ref f10) = true)
    (a11 : PySem.W.nsIn K mainGlobals "_law_least_period" = some (some (.ref f11)))
    (l11 : K.lookup f11 = some ⟨oc11, od11, .func (PySem.W.fnOf "_law_least_period" "_law_least_period" (defArgs s__law_least_period) (defBody s__law_least_period) (defScope s__law_least_period) .none kV11 dc11 pm11 an11 cd11 ct11), sl11⟩)
    (c11 : PySem.W.codeIn K cd11 "_law_least_period" = true)
    (k11 : PySem.W.keepIn K (.ref f11) = true)
    (a12 : PySem.W.nsIn K mainGlobals "_law_right" = some (some (.ref f12)))
    (l12 : K.lookup f12 = some ⟨oc12, od12, .func (PySem.W.fnOf "_law_right" "_law_right" (defArgs s__law_right) (defBody s__law_right) (defScope s__law_right) .none kV12 dc12 pm12 an12 cd12 ct12), sl12⟩)
    (c12 : PySem.W.codeIn K cd12 "_law_right" = true)
    (k12 : PySem.W.keepIn K (.ref f12) = true)
    (a13 : PySem.W.nsIn K mainGlobals "law" = some (some (.ref f13)))
    (l13 : K.lookup f13 = some ⟨oc13, od13, .func (PySem.W.fnOf "law" "law" (defArgs s_law) (defBody s_law) (defScope s_law) .none kV13 dc13 pm13 an13 cd13 ct13), sl13⟩)
    (c13 : PySem.W.codeIn K cd13 "law" = true)
    (k13 : PySem.W.keepIn K (.ref f13) = true)
    (z0 : PySem.W.nsIn K mainGlobals "len" = some none)
    (z1 : PySem.W.nsIn K mainGlobals "range" = some none)
    (z2 : PySem.W.nsIn K mainGlobals "all" = some none)
    (z3 : PySem.W.nsIn K mainGlobals "min" = some none)
    (z4 : PySem.W.nsIn K mainGlobals "max" = some none)
    (z5 : PySem.W.nsIn K mainGlobals "enumerate" = some none)
    (z6 : PySem.W.nsIn K mainGlobals "list" = some none)
    (z7 : PySem.W.nsIn K mainGlobals "int" = some none)
    (z8 : PySem.W.nsIn K mainGlobals "abs" = some none)
    (z9 : PySem.W.nsIn K mainGlobals "isinstance" = some none)
    (z10 : PySem.W.nsIn K mainGlobals "bool" = some none)
    (z11 : PySem.W.nsIn K mainGlobals "str" = some none)
    (z12 : PySem.W.nsIn K mainGlobals "tuple" = some none)
    : ∃ fd : FuncData, (∀ (s : Shared) (v : Value), BindsTo s fd ⟨[v], []⟩ [("script", v)]) ∧ ∀ base : Heap, K.In base → base.Ns mainGlobals mg → FnOk l.prog w K mg base (L2N.CX l.prog w) 21 fa fd ["script"] (spTrue K) := by
  have e := hfa.symm.trans (PySem.W.mg_of X G a13)
  cases e
  refine ⟨PySem.W.fnOf "law" "law" (defArgs s_law) (defBody s_law) (defScope s_law) .none kV13 dc13 pm13 an13 cd13 ct13, fun s v => .of_eq rfl, fun base _ _ => law_fn (exr := (fun _ _ _ _ => False)) law_true ?_⟩
  have F0 := fun_mk (st := s_has_period) l0 c0 k0
  have b0 := F0.binds (ps := ["text", "p"]) fun _ _ _ _ _ _ us hl => match us, hl with | [_, _], _ => rfl
  have m0 : FnM l.prog w K mg base (fun _ _ _ _ => False) 1 "has_period" 2 den_has_period := def_m (k := 0) (T := tab_has_period) (body := bod_has_period) (ρ := rho_has_period) F0 (PySem.W.mg_of X G a0) b0 sc_has_period mm_has_period trivial ⟨PySem.W.mg_none_of X G z0, trivial⟩ trivial trivial trivial trivial
  have F1 := fun_mk (st := s_periods_of) l1 c1 k1
  have b1 := F1.binds (ps := ["text"]) fun _ _ _ _ _ _ us hl => match us, hl with | [_], _ => rfl
  have m1 : FnM l.prog w K mg base (fun _ _ _ _ => False) 2 "periods_of" 1 den_periods_of := def_m (k := 1) (T := tab_periods_of) (body := bod_periods_of) (ρ := rho_periods_of) F1 (PySem.W.mg_of X G a1) b1 sc_periods_of mm_periods_of ⟨⟨1, by decide, m0⟩, trivial⟩ ⟨PySem.W.mg_none_of X G z1, PySem.W.mg_none_of X G z0, trivial⟩ trivial trivial trivial trivial
  have F2 := fun_mk (st := s_is_near_period) l2 c2 k2
  have b2 := F2.binds (ps := ["text", "k", "p"]) fun _ _ _ _ _ _ us hl => match us, hl with | [_, _, _], _ => rfl
  have m2 : FnM l.prog w K mg base (fun _ _ _ _ => False) 3 "is_near_period" 3 den_is_near_period := def_m (k := 2) (T := tab_is_near_period) (body := bod_is_near_period) (ρ := rho_is_near_period) F2 (PySem.W.mg_of X G a2) b2 sc_is_near_period mm_is_near_period trivial ⟨PySem.W.mg_none_of X G z2, PySem.W.mg_none_of X G z1, PySem.W.mg_none_of X G z3, PySem.W.mg_none_of X G z0, PySem.W.mg_none_of X G z4, trivial⟩ trivial trivial trivial trivial
  have F3 := fun_mk (st := s_near_period) l3 c3 k3
  have b3 := F3.binds (ps := ["text", "k"]) fun _ _ _ _ _ _ us hl => match us, hl with | [_, _], _ => rfl
  have m3 : FnM l.prog w K mg base (fun _ _ _ _ => False) 4 "near_period" 2 den_near_period := def_m (k := 3) (T := tab_near_period) (body := bod_near_period) (ρ := rho_near_period) F3 (PySem.W.mg_of X G a3) b3 sc_near_period mm_near_period ⟨⟨3, by decide, m2⟩, trivial⟩ trivial trivial trivial trivial trivial
  have F4 := fun_mk (st := s_near_periods) l4 c4 k4
  have b4 := F4.binds (ps := ["text"]) fun _ _ _ _ _ _ us hl => match us, hl with | [_], _ => rfl
  have m4 : FnM l.prog w K mg base (fun _ _ _ _ => False) 5 "near_periods" 1 den_near_periods := def_m (k := 4) (T := tab_near_periods) (body := bod_near_periods) (ρ := rho_near_periods) F4 (PySem.W.mg_of X G a4) b4 sc_near_periods mm_near_periods ⟨⟨4, by decide, m3⟩, trivial⟩ ⟨PySem.W.mg_none_of X G z1, PySem.W.mg_none_of X G z0, trivial⟩ trivial trivial trivial trivial
  have F5 := fun_mk (st := s_breaks_at) l5 c5 k5
  have b5 := F5.binds (ps := ["text"]) fun _ _ _ _ _ _ us hl => match us, hl with | [_], _ => rfl
  have m5 : FnM l.prog w K mg base (fun _ _ _ _ => False) 6 "breaks_at" 1 den_breaks_at := def_m (k := 5) (T := tab_breaks_at) (body := bod_breaks_at) (ρ := rho_breaks_at) F5 (PySem.W.mg_of X G a5) b5 sc_breaks_at mm_breaks_at ⟨⟨2, by decide, m1⟩, ⟨5, by decide, m4⟩, trivial⟩ ⟨PySem.W.mg_none_of X G z5, trivial⟩ trivial trivial trivial trivial
  have F6 := fun_mk (st := s__law_feed) l6 c6 k6
  have b6 := F6.binds (ps := ["script"]) fun _ _ _ _ _ _ us hl => match us, hl with | [_], _ => rfl
  have m6 : FnM l.prog w K mg base (fun _ _ _ _ => False) 7 "_law_feed" 1 den__law_feed := def_m (k := 6) (T := tab__law_feed) (body := bod__law_feed) (ρ := rho__law_feed) F6 (PySem.W.mg_of X G a6) b6 sc__law_feed mm__law_feed trivial ⟨PySem.W.mg_none_of X G z6, trivial⟩ trivial trivial trivial trivial
  have F7 := fun_mk (st := s__law_draw) l7 c7 k7
  have b7 := F7.binds (ps := ["feed", "many"]) fun _ _ _ _ _ _ us hl => match us, hl with | [_, _], _ => rfl
  have m7 : FnM l.prog w K mg base (fun _ _ _ _ => False) 8 "_law_draw" 2 den__law_draw := def_m (k := 7) (T := tab__law_draw) (body := bod__law_draw) (ρ := rho__law_draw) F7 (PySem.W.mg_of X G a7) b7 sc__law_draw mm__law_draw trivial ⟨PySem.W.mg_none_of X G z7, PySem.W.mg_none_of X G z0, PySem.W.mg_none_of X G z8, trivial⟩ trivial trivial trivial trivial
  have F8 := fun_mk (st := s__law_same) l8 c8 k8
  have b8 := F8.binds (ps := ["actual", "due"]) fun _ _ _ _ _ _ us hl => match us, hl with | [_, _], _ => rfl
  have m8 : FnM l.prog w K mg base (fun _ _ _ _ => False) 16 "_law_same" 2 den__law_same := fix_m (k := 8) (g := denS__law_same) (bad_m 8 (PySem.W.mg_of X G a8) k8 b8) (fun n d hn hd => def_m (k := n) (T := tab__law_same) (body := bod__law_same) (ρ := rho__law_same d) F8 (PySem.W.mg_of X G a8) b8 sc__law_same mm__law_same ⟨⟨n, Nat.le_refl n, hd⟩, trivial⟩ ⟨PySem.W.mg_none_of X G z9, PySem.W.mg_none_of X G z10, PySem.W.mg_none_of X G z7, PySem.W.mg_none_of X G z11, PySem.W.mg_none_of X G z12, PySem.W.mg_none_of X G z6, PySem.W.mg_none_of X G z2, PySem.W.mg_none_of X G z1, PySem.W.mg_none_of X G z0, trivial⟩ trivial trivial trivial trivial) 8
  have F9 := fun_mk (st := s__law_text) l9 c9 k9
  have b9 := F9.binds (ps := ["feed", "most"]) fun _ _ _ _ _ _ us hl => match us, hl with | [_, _], _ => rfl
  have m9 : FnM l.prog w K mg base (fun _ _ _ _ => False) 17 "_law_text" 2 den__law_text := def_m (k := 16) (T := tab__law_text) (body := bod__law_text) (ρ := rho__law_text) F9 (PySem.W.mg_of X G a9) b9 sc__law_text mm__law_text ⟨⟨8, by decide, m7⟩, trivial⟩ ⟨PySem.W.mg_none_of X G z0, PySem.W.mg_none_of X G z1, trivial⟩ trivial trivial trivial trivial
  have F10 := fun_mk (st := s__law_near) l10 c10 k10
  have b10 := F10.binds (ps := ["text", "k"]) fun _ _ _ _ _ _ us hl => match us, hl with | [_, _], _ => rfl
  have m10 : FnM l.prog w K mg base (fun _ _ _ _ => False) 18 "_law_near" 2 den__law_near := def_m (k := 17) (T := tab__law_near) (body := bod__law_near) (ρ := rho__law_near) F10 (PySem.W.mg_of X G a10) b10 sc__law_near mm__law_near trivial ⟨PySem.W.mg_none_of X G z1, PySem.W.mg_none_of X G z0, trivial⟩ trivial trivial trivial trivial
  have F11 := fun_mk (st := s__law_least_period) l11 c11 k11
  have b11 := F11.binds (ps := ["text"]) fun _ _ _ _ _ _ us hl => match us, hl with | [_], _ => rfl
  have m11 : FnM l.prog w K mg base (fun _ _ _ _ => False) 19 "_law_least_period" 1 den__law_least_period := def_m (k := 18) (T := tab__law_least_period) (body := bod__law_least_period) (ρ := rho__law_least_period) F11 (PySem.W.mg_of X G a11) b11 sc__law_least_period mm__law_least_period trivial ⟨PySem.W.mg_none_of X G z0, PySem.W.mg_none_of X G z1, trivial⟩ trivial trivial trivial trivial
  have F12 := fun_mk (st := s__law_right) l12 c12 k12
  have b12 := F12.binds (ps := ["feed", "text"]) fun _ _ _ _ _ _ us hl => match us, hl with | [_, _], _ => rfl
  have m12 : FnM l.prog w K mg base (fun _ _ _ _ => False) 20 "_law_right" 2 den__law_right := def_m (k := 19) (T := tab__law_right) (body := bod__law_right) (ρ := rho__law_right) F12 (PySem.W.mg_of X G a12) b12 sc__law_right mm__law_right ⟨⟨19, by decide, m11⟩, ⟨18, by decide, m10⟩, ⟨5, by decide, m4⟩, ⟨6, by decide, m5⟩, ⟨16, by decide, m8⟩, ⟨8, by decide, m7⟩, ⟨4, by decide, m3⟩, trivial⟩ ⟨PySem.W.mg_none_of X G z1, PySem.W.mg_none_of X G z0, PySem.W.mg_none_of X G z4, trivial⟩ trivial trivial trivial trivial
  have F13 := fun_mk (st := s_law) l13 c13 k13
  exact def_ok (k := 20) (T := tab_law) (body := bod_law) (ρ := rho_law) F13 sc_law mm_law ⟨⟨7, by decide, m6⟩, ⟨16, by decide, m8⟩, ⟨5, by decide, m4⟩, ⟨6, by decide, m5⟩, ⟨4, by decide, m3⟩, ⟨20, by decide, m12⟩, ⟨17, by decide, m9⟩, ⟨8, by decide, m7⟩, trivial⟩ ⟨PySem.W.mg_none_of X G z1, trivial⟩ trivial trivial trivial trivial
end K17
open PySem PySem.W PyProof.Rows in
set_option maxRecDepth 100000 in
set_option maxHeartbeats 0 in
theorem PySem.Challenge.cw_turnedstretches_k17_whole_breaks_of_text_holds : PySem.Challenge.rw_turnedstretches_k17_whole_breaks_of_text.Holds := by
  w_on; o_law; k_head; (case hw => w_witness2)
  k_fill
  refine L2.walk_of (l := PySem.Challenge.rw_turnedstretches_k17_whole_breaks_of_text) (n := 63) (k := 21) (x := "script") (CX := fun w => L2N.CX PySem.Challenge.rw_turnedstretches_k17_whole_breaks_of_text.prog w) (sp := fun w => Vi.spTrue _) rfl (by decide) rfl ⟨rfl, by decide, by decide⟩ (fun w h Y => PySem.W.kIn_of Y) ?F (fun _ _ a ns hl _ hS => ⟨a, ns, rfl, hS, hl, fun _ => rfl⟩) (fun _ _ _ _ _ h => by obtain ⟨_, _, _, _, _, _, _, _, _, _, _, _, z⟩ := h; exact z)
  case F =>
    intro w mg fa h KX G hmg
    refine' K17.all_mk KX G hmg ?a0 ?l0 ?c0 ?k0 ?a1 ?l1 ?c1 ?k1 ?a2 ?l2 ?c2 ?k2 ?a3 ?l3 ?c3 ?k3 ?a4 ?l4 ?c4 ?k4 ?a5 ?l5 ?c5 ?k5 ?a6 ?l6 ?c6 ?k6 ?a7 ?l7 ?c7 ?k7 ?a8 ?l8 ?c8 ?k8 ?a9 ?l9 ?c9 ?k9 ?a10 ?l10 ?c10 ?k10 ?a11 ?l11 ?c11 ?k11 ?a12 ?l12 ?c12 ?k12 ?a13 ?l13 ?c13 ?k13 ?z0 ?z1 ?z2 ?z3 ?z4 ?z5 ?z6 ?z7 ?z8 ?z9 ?z10 ?z11 ?z12
    (case a0 => first | k_is | rfl)
    (case l0 => first | k_is | rfl)
    (case c0 => first | k_is | rfl)
    (case k0 => first | k_is | rfl)
    (case a1 => first | k_is | rfl)
    (case l1 => first | k_is | rfl)
    (case c1 => first | k_is | rfl)
    (case k1 => first | k_is | rfl)
    (case a2 => first | k_is | rfl)
    (case l2 => first | k_is | rfl)
    (case c2 => first | k_is | rfl)
    (case k2 => first | k_is | rfl)
    (case a3 => first | k_is | rfl)
    (case l3 => first | k_is | rfl)
    (case c3 => first | k_is | rfl)
    (case k3 => first | k_is | rfl)
    (case a4 => first | k_is | rfl)
    (case l4 => first | k_is | rfl)
    (case c4 => first | k_is | rfl)
    (case k4 => first | k_is | rfl)
    (case a5 => first | k_is | rfl)
    (case l5 => first | k_is | rfl)
    (case c5 => first | k_is | rfl)
    (case k5 => first | k_is | rfl)
    (case a6 => first | k_is | rfl)
    (case l6 => first | k_is | rfl)
    (case c6 => first | k_is | rfl)
    (case k6 => first | k_is | rfl)
    (case a7 => first | k_is | rfl)
    (case l7 => first | k_is | rfl)
    (case c7 => first | k_is | rfl)
    (case k7 => first | k_is | rfl)
    (case a8 => first | k_is | rfl)
    (case l8 => first | k_is | rfl)
    (case c8 => first | k_is | rfl)
    (case k8 => first | k_is | rfl)
    (case a9 => first | k_is | rfl)
    (case l9 => first | k_is | rfl)
    (case c9 => first | k_is | rfl)
    (case k9 => first | k_is | rfl)
    (case a10 => first | k_is | rfl)
    (case l10 => first | k_is | rfl)
    (case c10 => first | k_is | rfl)
    (case k10 => first | k_is | rfl)
    (case a11 => first | k_is | rfl)
    (case l11 => first | k_is | rfl)
    (case c11 => first | k_is | rfl)
    (case k11 => first | k_is | rfl)
    (case a12 => first | k_is | rfl)
    (case l12 => first | k_is | rfl)
    (case c12 => first | k_is | rfl)
    (case k12 => first | k_is | rfl)
    (case a13 => first | k_is | rfl)
    (case l13 => first | k_is | rfl)
    (case c13 => first | k_is | rfl)
    (case k13 => first | k_is | rfl)
    (case z0 => first | k_is | rfl)
    (case z1 => first | k_is | rfl)
    (case z2 => first | k_is | rfl)
    (case z3 => first | k_is | rfl)
    (case z4 => first | k_is | rfl)
    (case z5 => first | k_is | rfl)
    (case z6 => first | k_is | rfl)
    (case z7 => first | k_is | rfl)
    (case z8 => first | k_is | rfl)
    (case z9 => first | k_is | rfl)
    (case z10 => first | k_is | rfl)
    (case z11 => first | k_is | rfl)
    (case z12 => first | k_is | rfl)
