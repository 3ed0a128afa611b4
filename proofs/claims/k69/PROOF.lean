import PyProof.Rows.All
import Wide.All
import OpenK.AllK
import Wide.FinOn
import HandS.ForMost
import HandS.ForExc
import HandS.Wide
import HandS.Flow
import HandS.Style
import HandS.Deep
import HandS.TupLe
import HandS.Walk
import HandS.TryOnly
import HandS.ExcOwn
import HandS.IsInst
import HandS.SortInts
import PyProof.Rows.SortShellAny
import HandS.Ends
import HandS.Words
import PySem.Challenge.RW_turnedstretches_k69_rows_rounded_down_an
set_option Elab.async false
set_option linter.all false
set_option maxRecDepth 100000
/-! V1: values with owners, how they lie in the abstract heap, states, steps. -/
namespace Vi
open PySem L2

/-- a value: plain data that nobody changes, an owned list, the script -/
inductive OV where
  | fz (d : PyData)
  | ol (xs : List OV)
  | sc (ns : List Int)
instance : Inhabited OV := ⟨.fz .none⟩
abbrev Env := List (Option OV)

/-- a text as the model has them -/
def StrG (x : Str) : Prop := x.length ≤ sizeLine ∧ x.cps.all (· < 0x110000) = true
mutual
inductive Rp (H : Hp) : V → PyData → Prop
  | non : Rp H .non .none
  | bl (b : Bool) : Rp H (.bl b) (.bool b)
  | int (i : Int) : Rp H (.int i) (.int i)
  | str (x : Str) : StrG x → Rp H (.str x) (.str x)
  | lst {a : Addr} {vs : List V} {ds : List PyData} : H a = some (.lst vs) → vs.length ≤ sizeLine → Rps H vs ds → Rp H (.ref a) (.list ds)
  | tup {a : Addr} {vs : List V} {ds : List PyData} : H a = some (.tup vs) → vs.length ≤ sizeLine → Rps H vs ds → Rp H (.ref a) (.tuple ds)
inductive Rps (H : Hp) : List V → List PyData → Prop
  | nil : Rps H [] []
  | cons {v : V} {d : PyData} {vs : List V} {ds : List PyData} : Rp H v d → Rps H vs ds → Rps H (v :: vs) (d :: ds)
end

abbrev Ex := Same

mutual
theorem Rp.mono {H H' : Hp} (e : Ex H H') : ∀ {v : V} {d : PyData}, Rp H v d → Rp H' v d
  | _, _, .non => .non
  | _, _, .bl b => .bl b
  | _, _, .int i => .int i
  | _, _, .str x h => .str x h
  | _, _, .lst h l r => .lst (e _ _ h) l (Rps.mono e r)
  | _, _, .tup h l r => .tup (e _ _ h) l (Rps.mono e r)
theorem Rps.mono {H H' : Hp} (e : Ex H H') : ∀ {vs : List V} {ds : List PyData}, Rps H vs ds → Rps H' vs ds
  | _, _, .nil => .nil
  | _, _, .cons h r => .cons (Rp.mono e h) (Rps.mono e r)
end
theorem Rps.length {H : Hp} : ∀ {vs : List V} {ds : List PyData}, Rps H vs ds → vs.length = ds.length
  | _, _, .nil => rfl
  | _, _, .cons _ r => by rw [List.length_cons, List.length_cons, r.length]
theorem Rps.get {H : Hp} : ∀ {vs : List V} {ds : List PyData} {i : Nat} {d : PyData}, Rps H vs ds → ds[i]? = some d → ∃ v, vs[i]? = some v ∧ Rp H v d
  | _, _, _, _, .nil, h => by simp at h
  | _, _, 0, _, .cons r _, h => by simp at h; subst h; exact ⟨_, rfl, r⟩
  | _, _, i + 1, d, .cons _ t, h => by
    obtain ⟨v, e, r⟩ := Rps.get (i := i) t (by simpa using h)
    exact ⟨v, by simpa using e, r⟩
theorem Rps.getV {H : Hp} : ∀ {vs : List V} {ds : List PyData} {i : Nat} {v : V}, Rps H vs ds → vs[i]? = some v → ∃ d, ds[i]? = some d ∧ Rp H v d
  | _, _, _, _, .nil, h => by simp at h
  | _, _, 0, _, .cons r _, h => by simp at h; subst h; exact ⟨_, rfl, r⟩
  | _, _, i + 1, d, .cons _ t, h => by
    obtain ⟨v, e, r⟩ := Rps.getV (i := i) t (by simpa using h)
    exact ⟨v, by simpa using e, r⟩
theorem Rps.append {H : Hp} : ∀ {vs ws : List V} {ds es : List PyData}, Rps H vs ds → Rps H ws es → Rps H (vs ++ ws) (ds ++ es)
  | _, _, _, _, .nil, s => s
  | _, _, _, _, .cons r t, s => .cons r (Rps.append t s)
theorem Rps.take {H : Hp} : ∀ {vs : List V} {ds : List PyData} (n : Nat), Rps H vs ds → Rps H (vs.take n) (ds.take n)
  | _, _, 0, _ => .nil
  | _, _, _ + 1, .nil => .nil
  | _, _, n + 1, .cons r t => .cons r (Rps.take n t)
theorem Rps.drop {H : Hp} : ∀ {vs : List V} {ds : List PyData} (n : Nat), Rps H vs ds → Rps H (vs.drop n) (ds.drop n)
  | _, _, 0, r => r
  | _, _, _ + 1, .nil => .nil
  | _, _, n + 1, .cons _ t => Rps.drop n t
theorem Rps.set {H : Hp} {v : V} {d : PyData} (r : Rp H v d) : ∀ {vs : List V} {ds : List PyData} (i : Nat), Rps H vs ds → Rps H (vs.set i v) (ds.set i d)
  | _, _, _, .nil => .nil
  | _, _, 0, .cons _ t => .cons r t
  | _, _, i + 1, .cons q t => .cons q (Rps.set r i t)
theorem Rps.eraseIdx {H : Hp} : ∀ {vs : List V} {ds : List PyData} (i : Nat), Rps H vs ds → Rps H (vs.eraseIdx i) (ds.eraseIdx i)
  | _, _, _, .nil => .nil
  | _, _, 0, .cons _ t => t
  | _, _, i + 1, .cons q t => .cons q (Rps.eraseIdx i t)
theorem Rps.reverse {H : Hp} : ∀ {vs : List V} {ds : List PyData}, Rps H vs ds → Rps H vs.reverse ds.reverse
  | _, _, .nil => .nil
  | _, _, .cons r t => by
    rw [List.reverse_cons, List.reverse_cons]
    exact (Rps.reverse t).append (.cons r .nil)
mutual
theorem Rp.dp {K : PySem.W.Frag} {H : Hp} : ∀ {v : V} {d : PyData}, Rp H v d → Dp K H v d
  | _, _, .non => .non
  | _, _, .bl b => .bl b
  | _, _, .int i => .int i
  | _, _, .str x _ => .str x
  | _, _, .lst h _ r => .lst (.inl (.inl h)) (Rps.dp r)
  | _, _, .tup h _ r => .tup (.inl (.inl h)) (Rps.dp r)
theorem Rps.dp {K : PySem.W.Frag} {H : Hp} : ∀ {vs : List V} {ds : List PyData}, Rps H vs ds → DpAll K H vs ds
  | _, _, .nil => .nil
  | _, _, .cons h r => .cons (Rp.dp h) (Rps.dp r)
end

mutual
theorem Rp.can {H : Hp} : ∀ {v : V} {d : PyData}, Rp H v d → d.canLay0 = true
  | _, _, .non => rfl
  | _, _, .bl b => rfl
  | _, _, .int i => rfl
  | _, _, .str x h => h.2
  | _, _, .lst h _ r => Rps.can r
  | _, _, .tup h _ r => Rps.can r
theorem Rps.can {H : Hp} : ∀ {vs : List V} {ds : List PyData}, Rps H vs ds → PyData.canLayAll0 ds = true
  | _, _, .nil => rfl
  | _, _, .cons h r => by
    unfold PyData.canLayAll0
    rw [Rp.can h, Rps.can r]
    rfl
end
/-! ### owned values -/
mutual
inductive OR (K : PySem.W.Frag) (Z H : Hp) : V → OV → List Addr → Prop
  | fz {v : V} {d : PyData} : Rp Z v d → OR K Z H v (.fz d) []
  | ol {a : Addr} {vs : List V} {xs : List OV} {F : List Addr} : Z a = none → H a = some (.lst vs) → vs.length ≤ sizeLine → ORs K Z H vs xs F → a ∉ F → OR K Z H (.ref a) (.ol xs) (a :: F)
  | sc {a : Addr} {ns : List Int} : SqL K Z a (ns.map V.int) → OR K Z H (.ref a) (.sc ns) []
inductive ORs (K : PySem.W.Frag) (Z H : Hp) : List V → List OV → List Addr → Prop
  | nil : ORs K Z H [] [] []
  | cons {v : V} {x : OV} {vs : List V} {xs : List OV} {F G : List Addr} : OR K Z H v x F → ORs K Z H vs xs G → (∀ b, b ∈ F → b ∉ G) → ORs K Z H (v :: vs) (x :: xs) (F ++ G)
end
section
variable {K : PySem.W.Frag} {Z Z' H H' : Hp}
mutual
/-- what is owned stays where its own objects stay and none of them is frozen -/
theorem OR.mono (ez : Ex Z Z') : ∀ {v : V} {x : OV} {F : List Addr}, OR K Z H v x F → (∀ b, b ∈ F → H' b = H b) → (∀ b, b ∈ F → Z' b = none) → OR K Z' H' v x F
  | _, _, _, .fz h, _, _ => .fz (h.mono ez)
  | _, _, _, .ol hz ha hl r hn, e, z => .ol (z _ List.mem_cons_self) ((e _ List.mem_cons_self).trans ha) hl (ORs.mono ez r (fun b hb => e b (List.mem_cons_of_mem _ hb)) fun b hb => z b (List.mem_cons_of_mem _ hb)) hn
  | _, _, _, .sc h, _, _ => .sc (Same.seq ez h)
theorem ORs.mono (ez : Ex Z Z') : ∀ {vs : List V} {xs : List OV} {F : List Addr}, ORs K Z H vs xs F → (∀ b, b ∈ F → H' b = H b) → (∀ b, b ∈ F → Z' b = none) → ORs K Z' H' vs xs F
  | _, _, _, .nil, _, _ => .nil
  | _, _, _, .cons h r d, e, z => .cons (OR.mono ez h (fun b hb => e b (List.mem_append_left _ hb)) fun b hb => z b (List.mem_append_left _ hb)) (ORs.mono ez r (fun b hb => e b (List.mem_append_right _ hb)) fun b hb => z b (List.mem_append_right _ hb)) d
end
mutual
theorem OR.own : ∀ {v : V} {x : OV} {F : List Addr}, OR K Z H v x F → ∀ b, b ∈ F → Z b = none ∧ ∃ vs, H b = some (.lst vs)
  | _, _, _, .fz _, b, hb => by cases hb
  | _, _, _, .ol hz ha _ r _, b, hb => by
    rcases List.mem_cons.mp hb with e | hb
    · subst e; exact ⟨hz, _, ha⟩
    · exact ORs.own r b hb
  | _, _, _, .sc _, b, hb => by cases hb
theorem ORs.own : ∀ {vs : List V} {xs : List OV} {F : List Addr}, ORs K Z H vs xs F → ∀ b, b ∈ F → Z b = none ∧ ∃ vs, H b = some (.lst vs)
  | _, _, _, .nil, b, hb => by cases hb
  | _, _, _, .cons h r _, b, hb => by
    rcases List.mem_append.mp hb with hb | hb
    · exact OR.own h b hb
    · exact ORs.own r b hb
end
theorem ORs.length : ∀ {vs : List V} {xs : List OV} {F : List Addr}, ORs K Z H vs xs F → vs.length = xs.length
  | _, _, _, .nil => rfl
  | _, _, _, .cons _ r _ => by rw [List.length_cons, List.length_cons, r.length]
theorem ORs.append : ∀ {vs ws : List V} {xs ys : List OV} {F G : List Addr}, ORs K Z H vs xs F → ORs K Z H ws ys G → (∀ b, b ∈ F → b ∉ G) → ORs K Z H (vs ++ ws) (xs ++ ys) (F ++ G)
  | _, _, _, _, _, _, .nil, s, _ => s
  | _, _, _, _, _, _, .cons (F := F) (G := G) h r d, s, e => by
    rw [List.append_assoc]
    refine .cons h (ORs.append r s fun b hb => e b (List.mem_append_right _ hb)) fun b hb hc => ?_
    rcases List.mem_append.mp hc with hc | hc
    · exact d b hb hc
    · exact e b (List.mem_append_left _ hb) hc
end

/-! ### as data -/
mutual
def dOf : OV → Option PyData
  | .fz d => some d
  | .ol xs => (dsOf xs).map .list
  | .sc _ => none
def dsOf : List OV → Option (List PyData)
  | [] => some []
  | x :: xs => match dOf x, dsOf xs with
    | some d, some ds => some (d :: ds)
    | _, _ => none
end
/-- Z and what H has at the places F -/
def frz (Z H : Hp) (F : List Addr) : Hp := fun b => if b ∈ F then H b else Z b
section
variable {K : PySem.W.Frag} {Z Z' H H' : Hp}
theorem frz_in {F : List Addr} {b : Addr} (h : b ∈ F) : frz Z H F b = H b := if_pos h
theorem frz_out {F : List Addr} {b : Addr} (h : b ∉ F) : frz Z H F b = Z b := if_neg h
theorem frz_ex {F : List Addr} (hz : ∀ b, b ∈ F → Z b = none) : Ex Z (frz Z H F) := fun b o e => by
  rw [frz_out fun hb => by rw [hz b hb] at e; cases e]
  exact e
theorem frz_sub {F : List Addr} (e : Ex Z H) : Ex (frz Z H F) H := fun b o h => by
  by_cases hb : b ∈ F
  · rw [frz_in hb] at h; exact h
  · rw [frz_out hb] at h; exact e b o h
mutual
theorem OR.rp (ez : Ex Z Z') : ∀ {v : V} {x : OV} {F : List Addr} {d : PyData}, OR K Z H v x F → (∀ b, b ∈ F → Z' b = H b) → dOf x = some d → Rp Z' v d
  | _, _, _, _, .fz h, _, e => by
    have e : some _ = some _ := e
    cases e
    exact h.mono ez
  | _, .ol xs, _, d, .ol hz ha hl r hn, g, e => by
    have e : (dsOf xs).map .list = some d := e
    cases q : dsOf xs with
    | none => rw [q] at e; cases e
    | some ds =>
      rw [q] at e
      cases e
      exact .lst ((g _ List.mem_cons_self).trans ha) hl (ORs.rp ez r (fun b hb => g b (List.mem_cons_of_mem _ hb)) q)
  | _, _, _, _, .sc _, _, e => by cases e
theorem ORs.rp (ez : Ex Z Z') : ∀ {vs : List V} {xs : List OV} {F : List Addr} {ds : List PyData}, ORs K Z H vs xs F → (∀ b, b ∈ F → Z' b = H b) → dsOf xs = some ds → Rps Z' vs ds
  | _, _, _, _, .nil, _, e => by
    have e : some [] = some _ := e
    cases e
    exact .nil
  | _, x :: xs, _, ds, .cons h r _, g, e => by
    unfold dsOf at e
    cases q1 : dOf x with
    | none => rw [q1] at e; cases e
    | some d =>
      cases q2 : dsOf xs with
      | none => rw [q1, q2] at e; cases e
      | some ds' =>
        rw [q1, q2] at e
        cases e
        exact .cons (OR.rp ez h (fun b hb => g b (List.mem_append_left _ hb)) q1) (ORs.rp ez r (fun b hb => g b (List.mem_append_right _ hb)) q2)
end
end

/-! ### states -/
abbrev Fp := Nat → List Addr
structure SI (K : PySem.W.Frag) (Z H : Hp) (σ : St) (env : Env) (F : Fp) : Prop where
  len : σ.length = env.length
  sub : Ex Z H
  rep : ∀ i x, env[i]? = some (some x) → ∃ v, σ[i]? = some (some v) ∧ OR K Z H v x (F i)
  non : ∀ i, (∀ x, env[i]? ≠ some (some x)) → F i = []
  dis : ∀ i j b, i ≠ j → b ∈ F i → b ∉ F j

/-- a step that leaves a value whose own objects are G -/
structure Stp (Z H : Hp) (F : Fp) (Z' H' : Hp) (F' : Fp) (G : List Addr) : Prop where
  zz : Ex Z Z'
  fr : ∀ b o, H b = some o → (∀ i, b ∉ F i) → H' b = some o
  gr : ∀ b, (b ∈ G ∨ ∃ i, b ∈ F' i) → (∃ i, b ∈ F i) ∨ H b = none
  gz : ∀ b, Z' b ≠ none → Z b ≠ none ∨ (∃ i, b ∈ F i) ∨ H b = none
  gd : ∀ i b, b ∈ G → b ∉ F' i

section
variable {K : PySem.W.Frag} {Z Z' Z1 Z2 H H' H1 H2 : Hp} {σ : St} {env env' : Env} {F F' F1 F2 : Fp} {G G' : List Addr}
theorem Stp.refl : Stp Z H F Z H F [] := ⟨Same.refl _, fun _ _ h _ => h, fun b h => h.elim (fun z => by cases z) fun z => .inl z, fun _ h => .inl h, fun _ _ h => by cases h⟩
theorem SI.own (I : SI K Z H σ env F) {i : Nat} {b : Addr} (h : b ∈ F i) : Z b = none ∧ ∃ vs, H b = some (.lst vs) := by
  cases q : env[i]? with
  | none =>
    have := I.non i fun x e => by rw [q] at e; cases e
    rw [this] at h; cases h
  | some o =>
    cases o with
    | none =>
      have := I.non i fun x e => by rw [q] at e; cases e
      rw [this] at h; cases h
    | some x =>
      obtain ⟨v, _, r⟩ := I.rep i x q
      exact r.own b h
/-- a value on the side stays -/
theorem Stp.keep {v : V} {x : OV} (s : Stp Z H F Z' H' F' G) (r : OR K Z H v x G') (d : ∀ i b, b ∈ G' → b ∉ F i) : OR K Z' H' v x G' := by
  refine r.mono s.zz (fun b hb => ?_) fun b hb => ?_
  · obtain ⟨_, vs, e⟩ := r.own b hb
    rw [e]
    exact s.fr b _ e fun i => d i b hb
  · cases q : Z' b with
    | none => rfl
    | some o =>
      obtain ⟨hz, vs, e⟩ := r.own b hb
      rcases s.gz b (by rw [q]; exact fun z => by cases z) with z | ⟨i, z⟩ | z
      · exact absurd hz z
      · exact absurd z (d i b hb)
      · rw [e] at z; cases z
theorem Stp.keeps {vs : List V} {xs : List OV} (s : Stp Z H F Z' H' F' G) (r : ORs K Z H vs xs G') (d : ∀ i b, b ∈ G' → b ∉ F i) : ORs K Z' H' vs xs G' := by
  refine r.mono s.zz (fun b hb => ?_) fun b hb => ?_
  · obtain ⟨_, vs, e⟩ := r.own b hb
    rw [e]
    exact s.fr b _ e fun i => d i b hb
  · cases q : Z' b with
    | none => rfl
    | some o =>
      obtain ⟨hz, vs, e⟩ := r.own b hb
      rcases s.gz b (by rw [q]; exact fun z => by cases z) with z | ⟨i, z⟩ | z
      · exact absurd hz z
      · exact absurd z (d i b hb)
      · rw [e] at z; cases z
/-- two steps; the first one's value is kept beside -/
theorem Stp.trans (s : Stp Z H F Z1 H1 F1 G) (t : Stp Z1 H1 F1 Z2 H2 F2 G') (own : ∀ b, b ∈ G → H1 b ≠ none) : Stp Z H F Z2 H2 F2 (G ++ G') := by
  have back : ∀ b, H1 b = none → H b = none ∨ ∃ i, b ∈ F i := fun b h => by
    by_cases hb : ∃ i, b ∈ F i
    · exact .inr hb
    · refine .inl ?_
      cases q : H b with
      | none => rfl
      | some o =>
        have := s.fr b o q fun i z => hb ⟨i, z⟩
        rw [h] at this; cases this
  have gr2 : ∀ b, (b ∈ G' ∨ ∃ i, b ∈ F2 i) → (∃ i, b ∈ F i) ∨ H b = none := fun b hb => by
    rcases t.gr b hb with z | z
    · exact s.gr b (.inr z)
    · exact (back b z).symm
  refine ⟨s.zz.trans t.zz, fun b o e hn => ?_, fun b hb => ?_, fun b hb => ?_, fun i b hb hc => ?_⟩
  · refine t.fr b o (s.fr b o e hn) fun i z => ?_
    rcases s.gr b (.inr ⟨i, z⟩) with ⟨j, w⟩ | w
    · exact hn j w
    · rw [e] at w; cases w
  · rcases hb with hb | hb
    · rcases List.mem_append.mp hb with hb | hb
      · exact s.gr b (.inl hb)
      · exact gr2 b (.inl hb)
    · exact gr2 b (.inr hb)
  · rcases t.gz b hb with z | ⟨i, z⟩ | z
    · exact s.gz b z
    · rcases s.gr b (.inr ⟨i, z⟩) with w | w
      · exact .inr (.inl w)
      · exact .inr (.inr w)
    · rcases back b z with w | w
      · exact .inr (.inr w)
      · exact .inr (.inl w)
  · rcases List.mem_append.mp hb with hb | hb
    · rcases t.gr b (.inr ⟨i, hc⟩) with ⟨j, z⟩ | z
      · exact s.gd j b hb z
      · exact own b hb z
    · exact t.gd i b hb hc
theorem Stp.trans0 (s : Stp Z H F Z1 H1 F1 []) (t : Stp Z1 H1 F1 Z2 H2 F2 G') : Stp Z H F Z2 H2 F2 G' := by
  have := s.trans t fun b h => by cases h
  simpa using this
theorem Stp.drop (s : Stp Z H F Z1 H1 F1 G) : Stp Z H F Z1 H1 F1 [] := ⟨s.zz, s.fr, fun b h => s.gr b (h.elim (fun z => by cases z) .inr), s.gz, fun _ _ h => by cases h⟩
theorem Stp.less (s : Stp Z H F Z1 H1 F1 G) (h : ∀ b, b ∈ G' → b ∈ G) : Stp Z H F Z1 H1 F1 G' := ⟨s.zz, s.fr, fun b q => s.gr b (q.elim (fun z => .inl (h b z)) .inr), s.gz, fun i b q => s.gd i b (h b q)⟩
/-- a value's own objects are frozen -/
theorem Stp.freeze (s : Stp Z H F Z' H' F' G) (I : SI K Z' H' σ env F') (own : ∀ b, b ∈ G → Z' b = none ∧ H' b ≠ none) : Stp Z H F (frz Z' H' G) H' F' [] ∧ SI K (frz Z' H' G) H' σ env F' := by
  refine ⟨⟨s.zz.trans (frz_ex fun b hb => (own b hb).1), s.fr, fun b h => s.gr b (h.elim (fun z => by cases z) .inr), fun b hb => ?_, fun _ _ h => by cases h⟩,
    ⟨I.len, frz_sub I.sub, fun i x e => ?_, I.non, I.dis⟩⟩
  · by_cases q : b ∈ G
    · exact .inr (s.gr b (.inl q))
    · rw [frz_out q] at hb
      exact s.gz b hb
  · obtain ⟨v, e1, r⟩ := I.rep i x e
    refine ⟨v, e1, r.mono (frz_ex fun b hb => (own b hb).1) (fun _ _ => rfl) fun b hb => ?_⟩
    rw [frz_out fun z => s.gd i b z hb]
    exact (r.own b hb).1
/-- a new frozen object -/
theorem SI.fresh {p : Addr} {o : HO} (I : SI K Z H σ env F) (hp : H p = none) : Stp Z H F (upd Z p o) (upd H p o) F [] ∧ SI K (upd Z p o) (upd H p o) σ env F := by
  have hz : Z p = none := by
    cases q : Z p with
    | none => rfl
    | some u => rw [I.sub p u q] at hp; cases hp
  have ez : Ex Z (upd Z p o) := fun b u e => by rw [upd_ne (ne_of_none e hz)]; exact e
  have eh : Ex H (upd H p o) := fun b u e => by rw [upd_ne (ne_of_none e hp)]; exact e
  refine ⟨⟨ez, fun b u e _ => eh b u e, fun b h => h.elim (fun z => by cases z) .inl, fun b hb => ?_, fun _ _ h => by cases h⟩, ⟨I.len, fun b u e => ?_, fun i x e => ?_, I.non, I.dis⟩⟩
  · by_cases q : b = p
    · subst q; exact .inr (.inr hp)
    · rw [upd_ne q] at hb; exact .inl hb
  · by_cases q : b = p
    · subst q; rw [upd_same] at e ⊢; exact e
    · rw [upd_ne q] at e ⊢; exact I.sub b u e
  · obtain ⟨v, e1, r⟩ := I.rep i x e
    refine ⟨v, e1, r.mono ez (fun b hb => ?_) fun b hb => ?_⟩
    · obtain ⟨_, vs, q⟩ := r.own b hb
      rw [upd_ne (ne_of_none q hp)]
    · obtain ⟨h0, vs, q⟩ := r.own b hb
      rw [upd_ne (ne_of_none q hp)]
      exact h0
/-- a new owned object beside -/
theorem SI.freshO {p : Addr} {o : HO} (I : SI K Z H σ env F) (hp : H p = none) : Stp Z H F Z (upd H p o) F [p] ∧ SI K Z (upd H p o) σ env F ∧ Z p = none := by
  have hz : Z p = none := by
    cases q : Z p with
    | none => rfl
    | some u => rw [I.sub p u q] at hp; cases hp
  have eh : Ex H (upd H p o) := fun b u e => by rw [upd_ne (ne_of_none e hp)]; exact e
  refine ⟨⟨Same.refl _, fun b u e _ => eh b u e, fun b h => h.elim (fun z => ?_) .inl, fun b hb => .inl hb, fun i b h hc => ?_⟩, ⟨I.len, I.sub.trans eh, fun i x e => ?_, I.non, I.dis⟩, hz⟩
  · have z : b = p := by simpa using z
    subst z; exact .inr hp
  · have z : b = p := by simpa using h
    subst z
    obtain ⟨_, vs, q⟩ := I.own hc
    rw [hp] at q; cases q
  · obtain ⟨v, e1, r⟩ := I.rep i x e
    refine ⟨v, e1, r.mono (Same.refl _) (fun b hb => ?_) fun b hb => (r.own b hb).1⟩
    obtain ⟨_, vs, q⟩ := r.own b hb
    rw [upd_ne (ne_of_none q hp)]
/-- only tracked objects were added -/
theorem SI.grow (I : SI K Z H σ env F) (e : Ex H H') : Stp Z H F Z H' F [] ∧ SI K Z H' σ env F := by
  refine ⟨⟨Same.refl _, fun b u q _ => e b u q, fun b h => h.elim (fun z => by cases z) .inl, fun b hb => .inl hb, fun _ _ h => by cases h⟩, ⟨I.len, I.sub.trans e, fun i x q => ?_, I.non, I.dis⟩⟩
  obtain ⟨v, e1, r⟩ := I.rep i x q
  refine ⟨v, e1, r.mono (Same.refl _) (fun b hb => ?_) fun b hb => (r.own b hb).1⟩
  obtain ⟨_, vs, q⟩ := r.own b hb
  rw [q]
  exact e b _ q
end
end Vi

set_option Elab.async false
set_option linter.all false
set_option maxRecDepth 100000
namespace Vi
open PySem L2

/-! ### slots -/
def setF (F : Fp) (i : Nat) (G : List Addr) : Fp := fun j => if j = i then G else F j
theorem setF_same {F : Fp} {i : Nat} {G : List Addr} : setF F i G i = G := if_pos rfl
theorem setF_ne {F : Fp} {i j : Nat} {G : List Addr} (h : j ≠ i) : setF F i G j = F j := if_neg h
section
variable {K : PySem.W.Frag} {Z Z' Z1 Z2 H H' H1 H2 : Hp} {σ σ' : St} {env env' env2 : Env} {F F' F1 F2 Fc : Fp} {G G' : List Addr} {v : V} {x : OV} {i : Nat}
/-- slot i takes the value v, which lay beside -/
theorem SI.put (I : SI K Z H σ env F) (hi : i < env.length) (r : OR K Z H v x G) (d : ∀ j b, b ∈ G → b ∉ F j) : SI K Z H (σ.set i (some v)) (env.set i (some x)) (setF F i G) := by
  have hσ : i < σ.length := by rw [I.len]; exact hi
  refine ⟨by rw [List.length_set, List.length_set, I.len], I.sub, fun j y e => ?_, fun j hj => ?_, fun j k b hjk hb => ?_⟩
  · by_cases q : i = j
    · subst q
      rw [List.getElem?_set_self hi] at e
      cases e
      exact ⟨v, List.getElem?_set_self hσ, by rw [setF_same]; exact r⟩
    · rw [List.getElem?_set_ne q] at e
      obtain ⟨u, e1, r1⟩ := I.rep j y e
      exact ⟨u, by rw [List.getElem?_set_ne q]; exact e1, by rw [setF_ne (Ne.symm q)]; exact r1⟩
  · by_cases q : i = j
    · subst q
      exact absurd (List.getElem?_set_self hi) (hj x)
    · rw [setF_ne (Ne.symm q)]
      refine I.non j fun y e => hj y ?_
      rw [List.getElem?_set_ne q]; exact e
  · by_cases qj : j = i
    · subst qj
      rw [setF_same] at hb
      rw [setF_ne (Ne.symm hjk)]
      exact d k b hb
    · rw [setF_ne qj] at hb
      by_cases qk : k = i
      · subst qk
        rw [setF_same]
        exact fun z => d j b z hb
      · rw [setF_ne qk]
        exact I.dis j k b hjk hb
/-- slot i lets its value go -/
theorem SI.gone (I : SI K Z H σ env F) (i : Nat) : SI K Z H σ (env.set i none) (setF F i []) := by
  refine ⟨by rw [List.length_set, I.len], I.sub, fun j y e => ?_, fun j hj => ?_, fun j k b hjk hb => ?_⟩
  · by_cases q : i = j
    · subst q
      by_cases hi : i < env.length
      · rw [List.getElem?_set_self hi] at e; cases e
      · rw [List.getElem?_eq_none (by rw [List.length_set]; omega)] at e; cases e
    · rw [List.getElem?_set_ne q] at e
      rw [setF_ne (Ne.symm q)]
      exact I.rep j y e
  · by_cases q : j = i
    · subst q; exact setF_same
    · rw [setF_ne q]
      refine I.non j fun y e => hj y ?_
      rw [List.getElem?_set_ne (Ne.symm q)]; exact e
  · by_cases qj : j = i
    · subst qj; rw [setF_same] at hb; cases hb
    · rw [setF_ne qj] at hb
      by_cases qk : k = i
      · subst qk; rw [setF_same]; exact fun z => by cases z
      · rw [setF_ne qk]; exact I.dis j k b hjk hb
/-- a slot's name forgotten, its value too -/
theorem SI.wipe1 (I : SI K Z H σ env F) (i : Nat) : SI K Z H (σ.set i none) (env.set i none) (setF F i []) := by
  have J := I.gone i
  refine ⟨by rw [List.length_set]; exact J.len, J.sub, fun j y e => ?_, J.non, J.dis⟩
  by_cases q : i = j
  · subst q
    by_cases hi : i < env.length
    · rw [List.getElem?_set_self hi] at e; cases e
    · rw [List.getElem?_eq_none (by rw [List.length_set]; omega)] at e; cases e
  · rw [List.getElem?_set_ne q]
    exact J.rep j y e
/-- slot i's value is read on the side -/
theorem SI.take (I : SI K Z H σ env F) (h : env[i]? = some (some x)) : ∃ v, σ[i]? = some (some v) ∧ OR K Z H v x (F i) ∧ (∀ j b, b ∈ F i → b ∉ setF F i [] j) := by
  obtain ⟨v, e, r⟩ := I.rep i x h
  refine ⟨v, e, r, fun j b hb => ?_⟩
  by_cases q : j = i
  · subst q; rw [setF_same]; exact fun z => by cases z
  · rw [setF_ne q]; exact I.dis i j b (Ne.symm q) hb
/-- what stands beside a step stays as it is -/
theorem SI.frame (s : Stp Z H Fc Z' H' F' G) (I : SI K Z H σ env F) (d : ∀ i j b, b ∈ F i → b ∉ Fc j) (sub : Ex Z' H') : SI K Z' H' σ env F := by
  refine ⟨I.len, sub, fun i x e => ?_, I.non, I.dis⟩
  obtain ⟨v, e1, r⟩ := I.rep i x e
  exact ⟨v, e1, s.keep r fun j b hb => d i j b hb⟩
end

/-! ### results -/
structure Exn where
  c : Nat
  a : Option PyData
inductive Rs (α : Type) where
  | ok (a : α) (env : Env)
  | ex (x : Exn) (env : Env)
  | bad
def Rs.bind {α β : Type} (m : Rs α) (k : α → Env → Rs β) : Rs β := match m with
  | .ok a e => k a e
  | .ex x e => .ex x e
  | .bad => .bad
@[simp] theorem Rs.bind_ok {α β : Type} {a : α} {e : Env} {k : α → Env → Rs β} : (Rs.ok a e).bind k = k a e := rfl
@[simp] theorem Rs.bind_ex {α β : Type} {x : Exn} {e : Env} {k : α → Env → Rs β} : (Rs.ex x e : Rs α).bind k = .ex x e := rfl
@[simp] theorem Rs.bind_bad {α β : Type} {k : α → Env → Rs β} : (Rs.bad : Rs α).bind k = .bad := rfl
abbrev M (α : Type) := Env → Rs α
/-- the value as plain data -/
def Rs.d (m : Rs OV) : Rs PyData := m.bind fun r e => match dOf r with
  | some d => .ok d e
  | none => .bad
/-- a data value as it is -/
def Rs.o (m : Option OV) (e : Env) : Rs OV := match m with
  | some r => .ok r e
  | none => .bad

/-! ### contexts -/
structure Ctx where
  P : Program
  w : World
  K : PySem.W.Frag
  mg : Str → Option Value
  base : Heap
  N : List Str
  scope : Scope
  fn : Str → Bool
  k : Nat
  W : WX
  exr : Exn → Value → Option Addr → Hp → Prop
structure Ctx.has (S : Ctx) (X : Cx) : Prop where
  prog : X.prog = S.P
  w : X.w = S.w
  K : X.K = S.K
  mg : X.mg = S.mg
  base : X.base = S.base
  N : X.N = S.N
  scope : X.env.scope = S.scope
  fn : X.fn = S.fn
  calm : X.calm = true
  room : Room S.k X.A
  own : PassesOwn (model X.prog X.w) X.A X.env X.xe
  takes : Takes X S.W

/-- what must hold so that e gives what is wanted, in all contexts of the kind -/
def wE (S : Ctx) (e : Expr) : TE := fun σ H Q => ∃ t : TE, (∀ X, S.has X → PE X e t) ∧ t σ H Q
def wT (S : Ctx) (e : Expr) : TT := fun σ H Q => ∃ t : TT, (∀ X, S.has X → PT X e t) ∧ t σ H Q
def wW (S : Ctx) (e : Expr) : TT := fun σ H Q => ∃ t : TT, (∀ X, S.has X → PW X e t) ∧ t σ H Q
def wA (S : Ctx) (es : List Expr) : TA := fun σ H Q => ∃ t : TA, (∀ X, S.has X → PA X es t) ∧ t σ H Q
def wS (S : Ctx) (st : Stmt) : TS := fun D σ H => ∃ t : TS, (∀ X, S.has X → PS X st t) ∧ t D σ H
def wSs (S : Ctx) (st : List Stmt) : TS := fun D σ H => ∃ t : TS, (∀ X, S.has X → PSs X st t) ∧ t D σ H
def wG (S : Ctx) (tg : Expr) : TG := fun v σ H Q => ∃ t : TG, (∀ X, S.has X → PG X tg t) ∧ t v σ H Q
def wOp (S : Ctx) (f : Value → Value → Sem Value) : R2 := fun x y H Q => ∃ r : R2, (∀ X, S.has X → OpR X f r) ∧ r x y H Q
section
variable {S : Ctx} {X : Cx} {e : Expr} {es : List Expr} {st : Stmt} {sts : List Stmt} {f : Value → Value → Sem Value}
theorem pe_w (h : S.has X) : PE X e (wE S e) := ⟨fun pins s σ H Q I ⟨t, p, q⟩ => (p X h).run pins s σ H Q I q⟩
theorem pt_w (h : S.has X) : PT X e (wT S e) := ⟨fun pins s σ H Q I ⟨t, p, q⟩ => (p X h).run pins s σ H Q I q⟩
theorem pw_w (h : S.has X) : PW X e (wW S e) := ⟨fun wh pins s σ H Q I ⟨t, p, q⟩ => (p X h).run wh pins s σ H Q I q⟩
theorem pa_w (h : S.has X) : PA X es (wA S es) := ⟨fun pos pins s σ H Q I ⟨t, p, q⟩ => (p X h).run pos pins s σ H Q I q⟩
theorem ps_w (h : S.has X) : PS X st (wS S st) := ⟨fun pins s σ H D I ⟨t, p, q⟩ => (p X h).run pins s σ H D I q⟩
theorem pss_w (h : S.has X) : PSs X sts (wSs S sts) := ⟨fun pins s σ H D I ⟨t, p, q⟩ => (p X h).run pins s σ H D I q⟩
theorem pg_w (h : S.has X) : PG X e (wG S e) := ⟨fun pins s σ H v u Q I r ⟨t, p, q⟩ => (p X h).run pins s σ H v u Q I r q⟩
theorem op_w (h : S.has X) : OpR X f (wOp S f) := fun pins s σ H x y v u Q I rx ry ⟨r, p, q⟩ => p X h pins s σ H x y v u Q I rx ry q
end

/-! ### soundness of a meaning -/
/-- an exception that the meaning tells reaches what is wanted of exceptions -/
def KX (S : Ctx) (σ : St) (Z H : Hp) (F : Fp) {α : Type} (mm : Rs α) : Prop := ∀ x env', mm = .ex x env' → ∀ Z' H' F' cls d, SI S.K Z' H' σ env' F' → Stp Z H F Z' H' F' [] → S.exr x cls d H' → S.W cls d σ H'
theorem KX.step {S : Ctx} {σ : St} {Z H Z1 H1 : Hp} {F F1 : Fp} {α : Type} {mm : Rs α} (k : KX S σ Z H F mm) (s : Stp Z H F Z1 H1 F1 []) : KX S σ Z1 H1 F1 mm :=
  fun x env' e Z' H' F' cls d I t q => k x env' e Z' H' F' cls d I (s.trans0 t) q
theorem KX.of {S : Ctx} {σ : St} {Z H : Hp} {F : Fp} {α β : Type} {mm : Rs α} {nn : Rs β} (k : KX S σ Z H F mm) (h : ∀ x env', nn = .ex x env' → mm = .ex x env') : KX S σ Z H F nn :=
  fun x env' e => k x env' (h x env' e)
theorem KX.bind {S : Ctx} {σ : St} {Z H : Hp} {F : Fp} {α β : Type} {mm : Rs α} {nn : Rs β} {kk : α → Env → Rs β} (k : KX S σ Z H F nn) (h : nn = mm.bind kk) : KX S σ Z H F mm :=
  k.of fun x env' e => by rw [h, e]; rfl
theorem KX.ok {S : Ctx} {σ : St} {Z H : Hp} {F : Fp} {α : Type} {a : α} {e : Env} : KX S σ Z H F (.ok a e) := fun _ _ z => by cases z
/-- an expression is evaluated as m tells -/
def SV (S : Ctx) (e : Expr) (m : M OV) : Prop := ∀ (σ : St) (env : Env) (Z H : Hp) (F : Fp), SI S.K Z H σ env F → ∀ Q : VK,
  (∀ r env', m env = .ok r env' → ∀ v Z' H' F' G, SI S.K Z' H' σ env' F' → OR S.K Z' H' v r G → Stp Z H F Z' H' F' G → Q v H') →
  KX S σ Z H F (m env) → m env ≠ .bad → wE S e σ H Q
/-- .. as data -/
def SD (S : Ctx) (e : Expr) (m : M PyData) : Prop := ∀ (σ : St) (env : Env) (Z H : Hp) (F : Fp), SI S.K Z H σ env F → ∀ Q : VK,
  (∀ d env', m env = .ok d env' → ∀ v Z' H' F', SI S.K Z' H' σ env' F' → Rp Z' v d → Stp Z H F Z' H' F' [] → Q v H') →
  KX S σ Z H F (m env) → m env ≠ .bad → wE S e σ H Q
/-- a test -/
def SB (S : Ctx) (e : Expr) (m : M Bool) : Prop := ∀ (σ : St) (env : Env) (Z H : Hp) (F : Fp), SI S.K Z H σ env F → ∀ Q : Bool → Hp → Prop,
  (∀ b env', m env = .ok b env' → ∀ Z' H' F', SI S.K Z' H' σ env' F' → Stp Z H F Z' H' F' [] → Q b H') →
  KX S σ Z H F (m env) → m env ≠ .bad → wT S e σ H Q
/-- .. of and, or: whatever the whole is -/
def SW (S : Ctx) (e : Expr) (m : M Bool) : Prop := ∀ (σ : St) (env : Env) (Z H : Hp) (F : Fp), SI S.K Z H σ env F → ∀ Q : Bool → Hp → Prop,
  (∀ b env', m env = .ok b env' → ∀ Z' H' F', SI S.K Z' H' σ env' F' → Stp Z H F Z' H' F' [] → Q b H') →
  KX S σ Z H F (m env) → m env ≠ .bad → wW S e σ H Q
/-- several, each as data -/
def SL (S : Ctx) (es : List Expr) (m : M (List PyData)) : Prop := ∀ (σ : St) (env : Env) (Z H : Hp) (F : Fp), SI S.K Z H σ env F → ∀ Q : List V → Hp → Prop,
  (∀ ds env', m env = .ok ds env' → ∀ vs Z' H' F', SI S.K Z' H' σ env' F' → Rps Z' vs ds → Stp Z H F Z' H' F' [] → Q vs H') →
  KX S σ Z H F (m env) → m env ≠ .bad → wA S es σ H Q
/-- several, with what they own -/
def SO (S : Ctx) (es : List Expr) (m : M (List OV)) : Prop := ∀ (σ : St) (env : Env) (Z H : Hp) (F : Fp), SI S.K Z H σ env F → ∀ Q : List V → Hp → Prop,
  (∀ rs env', m env = .ok rs env' → ∀ vs Z' H' F' G, SI S.K Z' H' σ env' F' → ORs S.K Z' H' vs rs G → Stp Z H F Z' H' F' G → Q vs H') →
  KX S σ Z H F (m env) → m env ≠ .bad → wA S es σ H Q

section
variable {S : Ctx} {a b e : Expr} {ma mb m : M OV} {da db : M PyData} {σ : St} {env : Env} {Z H : Hp} {F : Fp} {β : Type}
theorem OR.nn {K : PySem.W.Frag} {Z H : Hp} {v : V} {x : OV} {G : List Addr} (r : OR K Z H v x G) : ∀ b, b ∈ G → Z b = none ∧ H b ≠ none := fun b hb => by
  obtain ⟨h, vs, e⟩ := r.own b hb
  exact ⟨h, fun z => by rw [e] at z; cases z⟩
theorem ORs.nn {K : PySem.W.Frag} {Z H : Hp} {v : List V} {x : List OV} {G : List Addr} (r : ORs K Z H v x G) : ∀ b, b ∈ G → Z b = none ∧ H b ≠ none := fun b hb => by
  obtain ⟨h, vs, e⟩ := r.own b hb
  exact ⟨h, fun z => by rw [e] at z; cases z⟩
theorem bind_nb {α : Type} {mm : Rs α} {nn : Rs β} {kk : α → Env → Rs β} (h : nn = mm.bind kk) (kb : nn ≠ .bad) : mm ≠ .bad := fun z => kb (by rw [h, z]; rfl)
/-- first e, then the rest -/
theorem SV.go (h : SV S e m) (I : SI S.K Z H σ env F) {mm : Rs β} {kk : OV → Env → Rs β} (hm : mm = (m env).bind kk) (kx : KX S σ Z H F mm) (kb : mm ≠ .bad) {Q : VK}
    (k : ∀ r env1 v Z1 H1 F1 G, m env = .ok r env1 → mm = kk r env1 → SI S.K Z1 H1 σ env1 F1 → OR S.K Z1 H1 v r G → Stp Z H F Z1 H1 F1 G → Q v H1) : wE S e σ H Q :=
  h σ env Z H F I Q (fun r env1 e v Z1 H1 F1 G I1 r1 s1 => k r env1 v Z1 H1 F1 G e (by rw [hm, e]; rfl) I1 r1 s1) (kx.bind hm) (bind_nb hm kb)
theorem SD.go {m : M PyData} (h : SD S e m) (I : SI S.K Z H σ env F) {mm : Rs β} {kk : PyData → Env → Rs β} (hm : mm = (m env).bind kk) (kx : KX S σ Z H F mm) (kb : mm ≠ .bad) {Q : VK}
    (k : ∀ d env1 v Z1 H1 F1, m env = .ok d env1 → mm = kk d env1 → SI S.K Z1 H1 σ env1 F1 → Rp Z1 v d → Stp Z H F Z1 H1 F1 [] → Q v H1) : wE S e σ H Q :=
  h σ env Z H F I Q (fun r env1 e v Z1 H1 F1 I1 r1 s1 => k r env1 v Z1 H1 F1 e (by rw [hm, e]; rfl) I1 r1 s1) (kx.bind hm) (bind_nb hm kb)
theorem SB.go {m : M Bool} (h : SB S e m) (I : SI S.K Z H σ env F) {mm : Rs β} {kk : Bool → Env → Rs β} (hm : mm = (m env).bind kk) (kx : KX S σ Z H F mm) (kb : mm ≠ .bad) {Q : Bool → Hp → Prop}
    (k : ∀ d env1 Z1 H1 F1, m env = .ok d env1 → mm = kk d env1 → SI S.K Z1 H1 σ env1 F1 → Stp Z H F Z1 H1 F1 [] → Q d H1) : wT S e σ H Q :=
  h σ env Z H F I Q (fun r env1 e Z1 H1 F1 I1 s1 => k r env1 Z1 H1 F1 e (by rw [hm, e]; rfl) I1 s1) (kx.bind hm) (bind_nb hm kb)
theorem SL.go {es : List Expr} {m : M (List PyData)} (h : SL S es m) (I : SI S.K Z H σ env F) {mm : Rs β} {kk : List PyData → Env → Rs β} (hm : mm = (m env).bind kk) (kx : KX S σ Z H F mm) (kb : mm ≠ .bad) {Q : List V → Hp → Prop}
    (k : ∀ ds env1 vs Z1 H1 F1, m env = .ok ds env1 → mm = kk ds env1 → SI S.K Z1 H1 σ env1 F1 → Rps Z1 vs ds → Stp Z H F Z1 H1 F1 [] → Q vs H1) : wA S es σ H Q :=
  h σ env Z H F I Q (fun r env1 e v Z1 H1 F1 I1 r1 s1 => k r env1 v Z1 H1 F1 e (by rw [hm, e]; rfl) I1 r1 s1) (kx.bind hm) (bind_nb hm kb)
theorem SO.go {es : List Expr} {m : M (List OV)} (h : SO S es m) (I : SI S.K Z H σ env F) {mm : Rs β} {kk : List OV → Env → Rs β} (hm : mm = (m env).bind kk) (kx : KX S σ Z H F mm) (kb : mm ≠ .bad) {Q : List V → Hp → Prop}
    (k : ∀ rs env1 vs Z1 H1 F1 G, m env = .ok rs env1 → mm = kk rs env1 → SI S.K Z1 H1 σ env1 F1 → ORs S.K Z1 H1 vs rs G → Stp Z H F Z1 H1 F1 G → Q vs H1) : wA S es σ H Q :=
  h σ env Z H F I Q (fun r env1 e v Z1 H1 F1 G I1 r1 s1 => k r env1 v Z1 H1 F1 G e (by rw [hm, e]; rfl) I1 r1 s1) (kx.bind hm) (bind_nb hm kb)
theorem SV.of (h : ∀ (σ : St) (env : Env) (Z H : Hp) (F : Fp), SI S.K Z H σ env F → ∀ (Q : VK) (mm : Rs OV), mm = m env →
    (∀ r env', mm = .ok r env' → ∀ v Z' H' F' G, SI S.K Z' H' σ env' F' → OR S.K Z' H' v r G → Stp Z H F Z' H' F' G → Q v H') → KX S σ Z H F mm → mm ≠ .bad → wE S e σ H Q) : SV S e m :=
  fun σ env Z H F I Q k kx kb => h σ env Z H F I Q _ rfl k kx kb
theorem SD.of {m : M PyData} (h : ∀ (σ : St) (env : Env) (Z H : Hp) (F : Fp), SI S.K Z H σ env F → ∀ (Q : VK) (mm : Rs PyData), mm = m env →
    (∀ d env', mm = .ok d env' → ∀ v Z' H' F', SI S.K Z' H' σ env' F' → Rp Z' v d → Stp Z H F Z' H' F' [] → Q v H') → KX S σ Z H F mm → mm ≠ .bad → wE S e σ H Q) : SD S e m :=
  fun σ env Z H F I Q k kx kb => h σ env Z H F I Q _ rfl k kx kb
theorem SB.of {m : M Bool} (h : ∀ (σ : St) (env : Env) (Z H : Hp) (F : Fp), SI S.K Z H σ env F → ∀ (Q : Bool → Hp → Prop) (mm : Rs Bool), mm = m env →
    (∀ b env', mm = .ok b env' → ∀ Z' H' F', SI S.K Z' H' σ env' F' → Stp Z H F Z' H' F' [] → Q b H') → KX S σ Z H F mm → mm ≠ .bad → wT S e σ H Q) : SB S e m :=
  fun σ env Z H F I Q k kx kb => h σ env Z H F I Q _ rfl k kx kb
theorem SW.of {m : M Bool} (h : ∀ (σ : St) (env : Env) (Z H : Hp) (F : Fp), SI S.K Z H σ env F → ∀ (Q : Bool → Hp → Prop) (mm : Rs Bool), mm = m env →
    (∀ b env', mm = .ok b env' → ∀ Z' H' F', SI S.K Z' H' σ env' F' → Stp Z H F Z' H' F' [] → Q b H') → KX S σ Z H F mm → mm ≠ .bad → wW S e σ H Q) : SW S e m :=
  fun σ env Z H F I Q k kx kb => h σ env Z H F I Q _ rfl k kx kb
theorem SL.of {es : List Expr} {m : M (List PyData)} (h : ∀ (σ : St) (env : Env) (Z H : Hp) (F : Fp), SI S.K Z H σ env F → ∀ (Q : List V → Hp → Prop) (mm : Rs (List PyData)), mm = m env →
    (∀ ds env', mm = .ok ds env' → ∀ vs Z' H' F', SI S.K Z' H' σ env' F' → Rps Z' vs ds → Stp Z H F Z' H' F' [] → Q vs H') → KX S σ Z H F mm → mm ≠ .bad → wA S es σ H Q) : SL S es m :=
  fun σ env Z H F I Q k kx kb => h σ env Z H F I Q _ rfl k kx kb
theorem SO.of {es : List Expr} {m : M (List OV)} (h : ∀ (σ : St) (env : Env) (Z H : Hp) (F : Fp), SI S.K Z H σ env F → ∀ (Q : List V → Hp → Prop) (mm : Rs (List OV)), mm = m env →
    (∀ rs env', mm = .ok rs env' → ∀ vs Z' H' F' G, SI S.K Z' H' σ env' F' → ORs S.K Z' H' vs rs G → Stp Z H F Z' H' F' G → Q vs H') → KX S σ Z H F mm → mm ≠ .bad → wA S es σ H Q) : SO S es m :=
  fun σ env Z H F I Q k kx kb => h σ env Z H F I Q _ rfl k kx kb
theorem SW.go {m : M Bool} (h : SW S e m) (I : SI S.K Z H σ env F) {mm : Rs β} {kk : Bool → Env → Rs β} (hm : mm = (m env).bind kk) (kx : KX S σ Z H F mm) (kb : mm ≠ .bad) {Q : Bool → Hp → Prop}
    (k : ∀ d env1 Z1 H1 F1, m env = .ok d env1 → mm = kk d env1 → SI S.K Z1 H1 σ env1 F1 → Stp Z H F Z1 H1 F1 [] → Q d H1) : wW S e σ H Q :=
  h σ env Z H F I Q (fun r env1 e Z1 H1 F1 I1 s1 => k r env1 Z1 H1 F1 e (by rw [hm, e]; rfl) I1 s1) (kx.bind hm) (bind_nb hm kb)
/-- a meaning that is the same -/
theorem SV.congr {m m' : M OV} (h : SV S e m) (q : ∀ env, m' env = m env) : SV S e m' := by
  have : m' = m := funext q
  rw [this]; exact h
theorem SD.congr {m m' : M PyData} (h : SD S e m) (q : ∀ env, m' env = m env) : SD S e m' := by
  have : m' = m := funext q
  rw [this]; exact h
/-- as data -/
theorem SV.d (h : SV S e m) : SD S e (fun env => (m env).d) := fun σ env Z H F I Q k kx kb => by
  refine h.go I rfl kx kb fun r env1 v Z1 H1 F1 G e1 e2 I1 r1 s1 => ?_
  cases q : dOf r with
  | none =>
    rw [q] at e2
    exact absurd e2 kb
  | some d =>
    rw [q] at e2
    obtain ⟨s2, I2⟩ := s1.freeze I1 r1.nn
    exact k d env1 e2 v _ H1 F1 I2 (r1.rp (frz_ex fun b hb => (r1.nn b hb).1) (fun b hb => frz_in hb) q) s2
theorem SD.v {m : M PyData} (h : SD S e m) : SV S e (fun env => (m env).bind fun d env' => .ok (.fz d) env') := fun σ env Z H F I Q k kx kb =>
  h.go I rfl kx kb fun d env1 v Z1 H1 F1 e1 e2 I1 r1 s1 => k (.fz d) env1 e2 v Z1 H1 F1 [] I1 (.fz r1) s1

/-! ### constants and names -/
theorem sd_non {j pos} : SD S (.Constant .none j pos) (fun env => .ok .none env) := fun σ env Z H F I Q k _ _ => ⟨_, fun X hX => pe_non, k _ _ rfl _ Z H F I .non .refl⟩
theorem sd_bl {b j pos} : SD S (.Constant (.bool b) j pos) (fun env => .ok (.bool b) env) := fun σ env Z H F I Q k _ _ => ⟨_, fun X hX => pe_bl, k _ _ rfl _ Z H F I (.bl b) .refl⟩
theorem sd_int {i j pos} : SD S (.Constant (.int i) j pos) (fun env => .ok (.int i) env) := fun σ env Z H F I Q k _ _ => ⟨_, fun X hX => pe_int, k _ _ rfl _ Z H F I (.int i) .refl⟩
theorem sd_str {x j pos} (hx : StrG x) : SD S (.Constant (.str x) j pos) (fun env => .ok (.str x) env) := fun σ env Z H F I Q k _ _ => ⟨_, fun X hX => pe_str, k _ _ rfl _ Z H F I (.str x hx) .refl⟩
/-- a module's constant -/
theorem sd_gi {x : Str} {i : Int} {t : Tok} {pos} (hg : S.scope.names.lookup x = some .globalImplicit) (hm : S.mg x = some (.int i t)) (hd : (x == ("__debug__" : Str)) = false) : SD S (.Name x pos) (fun env => .ok (.int i) env) :=
  fun σ env Z H F I Q k _ _ => ⟨_, fun X hX => pe_glob (by show X.env.scope.names.lookup x = _; rw [hX.scope]; exact hg) (by rw [hX.mg]; exact hm) (v := .int i) ⟨t, rfl⟩ hd, k _ _ rfl _ Z H F I (.int i) .refl⟩
theorem sd_gs {x y : Str} {t : Tok} {pos} (hg : S.scope.names.lookup x = some .globalImplicit) (hm : S.mg x = some (.str y t)) (hy : StrG y) (hd : (x == ("__debug__" : Str)) = false) : SD S (.Name x pos) (fun env => .ok (.str y) env) :=
  fun σ env Z H F I Q k _ _ => ⟨_, fun X hX => pe_glob (by show X.env.scope.names.lookup x = _; rw [hX.scope]; exact hg) (by rw [hX.mg]; exact hm) (v := .str y) ⟨t, rfl⟩ hd, k _ _ rfl _ Z H F I (.str y hy) .refl⟩

/-- how a name's slot is read -/
structure NameOk (S : Ctx) (i : Nat) (x : Str) : Prop where
  at_ : S.N[i]? = some x
  vis : Vis S.scope x
  nd : (x == ("__debug__" : Str)) = false
  nc : (x == ("__classdict__" : Str)) = false
theorem NameOk.pe {i : Nat} {x : Str} {pos : Pos} (n : NameOk S i x) {X : Cx} (h : S.has X) : PE X (.Name x pos) (tVar i) :=
  pe_var (by rw [h.N]; exact n.at_) (by rw [h.scope]; exact n.vis) n.nd n.nc
/-- a name: its data; what is owned is frozen by being read -/
def rdVar (i : Nat) : M OV := fun env => match env[i]? with
  | some (some (.fz d)) => .ok (.fz d) env
  | some (some (.ol xs)) => (match dsOf xs with
    | some ds => .ok (.fz (.list ds)) (env.set i (some (.fz (.list ds))))
    | none => .bad)
  | _ => .bad
theorem rdVar_fz {i : Nat} {d : PyData} (h : env[i]? = some (some (.fz d))) : rdVar i env = .ok (.fz d) env := by simp [rdVar, h]
theorem rdVar_ol {i : Nat} {xs : List OV} {ds : List PyData} (h : env[i]? = some (some (.ol xs))) (q : dsOf xs = some ds) : rdVar i env = .ok (.fz (.list ds)) (env.set i (some (.fz (.list ds)))) := by simp [rdVar, h, q]
theorem rdVar_nb {i : Nat} (h : rdVar i env ≠ .bad) : (∃ d, env[i]? = some (some (.fz d))) ∨ ∃ xs ds, env[i]? = some (some (.ol xs)) ∧ dsOf xs = some ds := by
  unfold rdVar at h
  cases q : env[i]? with
  | none => rw [q] at h; exact absurd rfl h
  | some o =>
    cases o with
    | none => rw [q] at h; exact absurd rfl h
    | some y =>
      cases y with
      | fz d => exact .inl ⟨d, rfl⟩
      | sc ns => rw [q] at h; exact absurd rfl h
      | ol xs =>
        refine .inr ⟨xs, ?_⟩
        rw [q] at h
        cases qd : dsOf xs with
        | none => simp [qd] at h
        | some ds => exact ⟨ds, rfl, rfl⟩
theorem take_stp {K : PySem.W.Frag} {Z H : Hp} {F : Fp} {i : Nat} (dj : ∀ j b, b ∈ F i → b ∉ setF F i [] j) : Stp Z H F Z H (setF F i []) (F i) :=
  ⟨Same.refl _, fun _ _ h _ => h, fun b h => h.elim (fun z => .inl ⟨i, z⟩) fun ⟨j, z⟩ => by
    by_cases qj : j = i
    · subst qj; rw [setF_same] at z; cases z
    · rw [setF_ne qj] at z; exact .inl ⟨j, z⟩, fun _ h => .inl h, fun j b hb => dj j b hb⟩
/-- a slot's owned list is frozen where it lies -/
theorem SI.frzAt {i : Nat} {xs : List OV} {ds : List PyData} (I : SI S.K Z H σ env F) (q : env[i]? = some (some (.ol xs))) (qd : dsOf xs = some ds) :
    ∃ v Z', σ[i]? = some (some v) ∧ Rp Z' v (.list ds) ∧ SI S.K Z' H σ (env.set i (some (.fz (.list ds)))) (setF F i []) ∧ Stp Z H F Z' H (setF F i []) [] := by
  have hi : i < env.length := (List.getElem?_eq_some_iff.mp q).1
  obtain ⟨v, ev, r, dj⟩ := I.take q
  have J := I.gone i
  obtain ⟨s2, J2⟩ := (take_stp (K := S.K) (Z := Z) (H := H) dj).freeze J r.nn
  have rr : Rp (frz Z H (F i)) v (.list ds) := r.rp (frz_ex fun b hb => (r.nn b hb).1) (fun b hb => frz_in hb) (by show (dsOf xs).map PyData.list = _; rw [qd]; rfl)
  have J3 := J2.put (i := i) (x := .fz (.list ds)) (G := []) (by rw [List.length_set]; exact hi) (.fz rr) fun _ _ z => by cases z
  have eσ : σ.set i (some v) = σ := by
    obtain ⟨hs, he⟩ := List.getElem?_eq_some_iff.mp ev
    rw [← he]; exact List.set_getElem_self hs
  rw [eσ, List.set_set] at J3
  have eF : setF (setF F i []) i [] = setF F i [] := by
    funext j
    by_cases qj : j = i
    · subst qj; rw [setF_same, setF_same]
    · rw [setF_ne qj, setF_ne qj]
  rw [eF] at J3
  exact ⟨v, _, ev, rr, J3, s2⟩
theorem sv_var {i : Nat} {x : Str} {pos : Pos} (n : NameOk S i x) : SV S (.Name x pos) (rdVar i) := fun σ env Z H F I Q k kx kb => by
  refine ⟨_, fun X hX => n.pe hX, ?_⟩
  rcases rdVar_nb kb with ⟨d, q⟩ | ⟨xs, ds, q, qd⟩
  · obtain ⟨v, ev, r⟩ := I.rep i _ q
    exact ⟨v, ev, k _ _ (rdVar_fz q) v Z H F _ I r (by generalize hG : F i = G at r; cases r; exact .refl)⟩
  · obtain ⟨v, Z', ev, rr, J, s⟩ := I.frzAt q qd
    exact ⟨v, ev, k _ _ (rdVar_ol q qd) v Z' H _ [] J (.fz rr) s⟩
/-- an owned list moves out -/
def mvVar (i : Nat) : M OV := fun env => match env[i]? with
  | some (some (.ol xs)) => .ok (.ol xs) (env.set i none)
  | _ => rdVar i env
theorem mvVar_ol {i : Nat} {xs : List OV} (h : env[i]? = some (some (.ol xs))) : mvVar i env = .ok (.ol xs) (env.set i none) := by simp [mvVar, h]
theorem sv_mv {i : Nat} {x : Str} {pos : Pos} (n : NameOk S i x) : SV S (.Name x pos) (mvVar i) := fun σ env Z H F I Q k kx kb => by
  by_cases hq : ∃ xs, env[i]? = some (some (.ol xs))
  · refine ⟨_, fun X hX => n.pe hX, ?_⟩
    obtain ⟨xs, q⟩ := hq
    obtain ⟨v, ev, r, dj⟩ := I.take q
    exact ⟨v, ev, k _ _ (mvVar_ol q) v Z H _ (F i) (I.gone i) r (take_stp (K := S.K) dj)⟩
  · have e : mvVar i env = rdVar i env := by
      unfold mvVar
      split
      · rename_i xs q; exact absurd ⟨xs, q⟩ hq
      · rfl
    rw [e] at k kx kb
    exact sv_var n σ env Z H F I Q k kx kb
end
end Vi

set_option Elab.async false
set_option linter.all false
set_option maxRecDepth 100000
namespace Vi
open PySem L2

/-! ### new objects -/
section
variable {K : PySem.W.Frag} {Z H : Hp} {σ : St} {env : Env} {F : Fp} {p : Addr} {vs : List V} {ds : List PyData}
theorem ors_fz {Z H : Hp} : ∀ {vs : List V} {ds : List PyData}, Rps Z vs ds → ORs K Z H vs (ds.map .fz) []
  | _, _, .nil => .nil
  | _, _, .cons h r => .cons (F := []) (G := []) (.fz h) (ors_fz r) fun b z => by cases z
theorem SI.newL (I : SI K Z H σ env F) (hp : H p = none) (r : Rps Z vs ds) (hl : vs.length ≤ sizeLine) :
    SI K Z (upd H p (.lst vs)) σ env F ∧ OR K Z (upd H p (.lst vs)) (.ref p) (.ol (ds.map .fz)) [p] ∧ Stp Z H F Z (upd H p (.lst vs)) F [p] := by
  obtain ⟨s, I', hz⟩ := I.freshO (o := .lst vs) hp
  exact ⟨I', .ol hz upd_same hl (ors_fz r) (by simp), s⟩
theorem SI.newT (I : SI K Z H σ env F) (hp : H p = none) (r : Rps Z vs ds) (hl : vs.length ≤ sizeLine) :
    SI K (upd Z p (.tup vs)) (upd H p (.tup vs)) σ env F ∧ Rp (upd Z p (.tup vs)) (.ref p) (.tuple ds) ∧ Stp Z H F (upd Z p (.tup vs)) (upd H p (.tup vs)) F [] := by
  obtain ⟨s, I'⟩ := I.fresh (o := .tup vs) hp
  exact ⟨I', .tup upd_same hl (r.mono s.zz), s⟩
theorem SI.at (I : SI K Z H σ env F) {v : V} {d : PyData} (r : Rp Z v d) : Rp H v d := r.mono I.sub
end
theorem StrG.append {a b : Str} (ha : StrG a) (hb : StrG b) (h : a.length + b.length ≤ sizeLine) : StrG (a ++ b) := by
  refine ⟨?_, ?_⟩
  · show (a.cps ++ b.cps).size ≤ sizeLine
    rw [Array.size_append]; exact h
  · show (a.cps ++ b.cps).all (· < 0x110000) = true
    rw [Array.all_append, ha.2, hb.2]; rfl

/-! ### two data make one -/
/-- the factors of a product are small enough -/
def mulG (a b : Int) : Bool := decide (a.natAbs < 2 ^ 64) || decide (b.natAbs < 2 ^ 64) || decide (a.natAbs.log2 + b.natAbs.log2 < 1000000)
def addD : PyData → PyData → Option OV
  | .int a, .int b => some (.fz (.int (a + b)))
  | .str a, .str b => if a.length + b.length ≤ sizeLine then some (.fz (.str (a ++ b))) else none
  | .list a, .list b => if a.length + b.length ≤ sizeLine then some (.ol ((a ++ b).map .fz)) else none
  | .tuple a, .tuple b => if a ≠ [] ∧ a.length + b.length ≤ sizeLine then some (.fz (.tuple (a ++ b))) else none
  | _, _ => none
def subD : PyData → PyData → Option OV
  | .int a, .int b => some (.fz (.int (a - b)))
  | _, _ => none
def mulD : PyData → PyData → Option OV
  | .int a, .int b => if mulG a b = true then some (.fz (.int (a * b))) else none
  | .list a, .int k => if k < 2 ^ 62 ∧ -(2 ^ 62) < k ∧ a.length * k.toNat ≤ sizeLine then some (.ol ((List.replicate k.toNat a).flatten.map .fz)) else none
  | .str a, .int k => if k < 2 ^ 62 ∧ -(2 ^ 62) < k ∧ a.length * k.toNat ≤ sizeLine then some (.fz (.str ⟨(List.replicate k.toNat a.cps.toList).flatten.toArray⟩)) else none
  | _, _ => none
def fdivD : PyData → PyData → Option OV
  | .int a, .int b => if 0 < b ∧ b.natAbs.log2 < 9000 then some (.fz (.int (a / b))) else none
  | _, _ => none
def modD : PyData → PyData → Option OV
  | .int a, .int b => if 0 < b then some (.fz (.int (a % b))) else none
  | _, _ => none
def powD : PyData → PyData → Option OV
  | .int a, .int b => if 0 ≤ b ∧ b ≤ 1000000 ∧ a.natAbs < 2 ^ 64 then some (.fz (.int (a ^ b.toNat))) else none
  | _, _ => none
def binD (op : Operator) (a b : PyData) : Option OV := match op with
  | .Add => addD a b
  | .Sub => subD a b
  | .Mult => mulD a b
  | .FloorDiv => fdivD a b
  | .Mod => modD a b
  | .Pow => powD a b
  | _ => none

/-- an operator on values keeps to g -/
def OpOk (S : Ctx) (f : Value → Value → Sem Value) (g : PyData → PyData → Option OV) : Prop := ∀ (σ : St) (env : Env) (Z H : Hp) (F : Fp) (x y : V) (dx dy : PyData) (r : OV), SI S.K Z H σ env F → Rp Z x dx → Rp Z y dy → g dx dy = some r →
  ∀ Q : VK, (∀ v Z' H' G, SI S.K Z' H' σ env F → OR S.K Z' H' v r G → Stp Z H F Z' H' F G → Q v H') → wOp S f x y H Q
/-- a op b -/
def bin2 (ma mb : M PyData) (g : PyData → PyData → Option OV) : M OV := fun env => (ma env).bind fun da e1 => (mb e1).bind fun db e2 => Rs.o (g da db) e2
section
variable {S : Ctx} {a b e : Expr} {ma mb : M PyData} {g : PyData → PyData → Option OV} {pos : Pos}
theorem ro_nb {m : Option OV} {e : Env} (h : Rs.o m e ≠ .bad) : ∃ r, m = some r := by
  cases m with
  | none => exact absurd rfl h
  | some r => exact ⟨r, rfl⟩
theorem sv_bin {op : Operator} (ha : SD S a ma) (hb : SD S b mb) (ho : OpOk S (binaryOp op) g) : SV S (.BinOp a op b pos) (bin2 ma mb g) := .of fun σ env Z H F I Q mm hm k kx kb => by
  refine ⟨tOp (wOp S (binaryOp op)) (wE S a) (wE S b), fun X hX => pe_op (op_w hX) (pe_w hX) (pe_w hX), ?_⟩
  refine ha.go I hm kx kb fun da e1 va Z1 H1 F1 _ q1 I1 r1 s1 => ?_
  refine hb.go I1 q1 (kx.step s1) kb fun db e2 vb Z2 H2 F2 _ q2 I2 r2 s2 => ?_
  rw [q2] at kb
  obtain ⟨r, hr⟩ := ro_nb kb
  refine ho σ e2 Z2 H2 F2 va vb da db r I2 (r1.mono s2.zz) r2 hr Q fun v Z' H' G I' o' s' => ?_
  exact k r e2 (by rw [q2, hr]; rfl) v Z' H' F2 G I' o' ((s1.trans0 s2).trans0 s')
/-! the operators -/
theorem wop_mk {f : Value → Value → Sem Value} {R : R2} {x y : V} {H : Hp} {Q : VK} (h : ∀ X, S.has X → OpR X f R) (q : R x y H Q) : wOp S f x y H Q := ⟨R, h, q⟩
theorem k_fz {σ : St} {env : Env} {Z H : Hp} {F : Fp} {r : OV} {Q : VK} (I : SI S.K Z H σ env F) (k : ∀ v Z' H' G, SI S.K Z' H' σ env F → OR S.K Z' H' v r G → Stp Z H F Z' H' F G → Q v H') {v : V} {d : PyData} (e : r = .fz d) (h : Rp Z v d) : Q v H := by
  subst e
  exact k v Z H [] I (.fz h) .refl
theorem ok_add : OpOk S (binaryOp .Add) addD := by
  intro σ env Z H F x y dx dy r I rx ry hr Q k
  cases rx with
  | int i =>
    cases ry with
    | int j =>
      have e : r = .fz (.int (i + j)) := (Option.some.inj hr).symm
      exact wop_mk (fun X hX => op_add) ⟨i, j, rfl, rfl, k_fz I k e (.int _)⟩
    | _ => cases hr
  | str a ha =>
    cases ry with
    | str b hb =>
      simp only [addD] at hr
      split at hr
      · rename_i hl
        have e : r = .fz (.str (a ++ b)) := (Option.some.inj hr).symm
        exact wop_mk (fun X hX => op_add_str) ⟨a, b, rfl, rfl, hl, k_fz I k e (.str _ (ha.append hb hl))⟩
      · cases hr
    | _ => cases hr
  | lst h1 l1 r1 =>
    rename_i p1 vs1 ds1
    cases ry with
    | lst h2 l2 r2 =>
      rename_i p2 vs2 ds2
      simp only [addD] at hr
      split at hr
      · rename_i hl
        have e : r = .ol ((ds1 ++ ds2).map .fz) := (Option.some.inj hr).symm
        have hv : vs1.length + vs2.length ≤ sizeLine := by rw [r1.length, r2.length]; exact hl
        refine wop_mk (fun X hX => op_cat) ⟨p1, p2, vs1, vs2, rfl, rfl, I.sub _ _ h1, I.sub _ _ h2, hv, fun p hp => ?_⟩
        obtain ⟨I', o', s'⟩ := I.newL hp (r1.append r2) (by rw [List.length_append]; exact hv)
        rw [e] at k
        exact k _ _ _ _ I' o' s'
      · cases hr
    | _ => cases hr
  | tup h1 l1 r1 =>
    rename_i p1 vs1 ds1
    cases ry with
    | tup h2 l2 r2 =>
      rename_i p2 vs2 ds2
      simp only [addD] at hr
      split at hr
      · rename_i hl
        have e : r = .fz (.tuple (ds1 ++ ds2)) := (Option.some.inj hr).symm
        have hv : vs1.length + vs2.length ≤ sizeLine := by rw [r1.length, r2.length]; exact hl.2
        have hne : vs1 ≠ [] := fun z => by
          have := r1.length
          rw [z] at this
          exact hl.1 (List.eq_nil_of_length_eq_zero this.symm)
        refine wop_mk (R := rCatT S.K) (fun X hX => by rw [← hX.K]; exact op_catT) ⟨p1, p2, vs1, vs2, rfl, rfl, .inl (.inl (I.sub _ _ h1)), .inl (.inl (I.sub _ _ h2)), hne, hv, fun z => ?_, fun _ p hp => ?_⟩
        · have z2 : ds2 = [] := by
            have := r2.length
            rw [z] at this
            exact List.eq_nil_of_length_eq_zero this.symm
          rw [z2, List.append_nil] at e
          exact k_fz I k e (.tup h1 l1 r1)
        · obtain ⟨I', o', s'⟩ := I.newT hp (r1.append r2) (by rw [List.length_append]; exact hv)
          rw [e] at k
          exact k _ _ _ _ I' (.fz o') s'
      · cases hr
    | _ => cases hr
  | _ => cases hr
theorem ok_sub : OpOk S (binaryOp .Sub) subD := by
  intro σ env Z H F x y dx dy r I rx ry hr Q k
  cases rx with
  | int i =>
    cases ry with
    | int j => exact wop_mk (fun X hX => op_sub) ⟨i, j, rfl, rfl, k_fz I k (Option.some.inj hr).symm (.int _)⟩
    | _ => cases hr
  | _ => cases hr
theorem mulG_ok {a b : Int} (h : mulG a b = true) : CMul a b ∨ CMulW a b := by
  unfold mulG at h
  simp only [Bool.or_eq_true, decide_eq_true_eq] at h
  rcases h with (h | h) | h
  · exact .inl (.inl (by omega))
  · exact .inl (.inr (by omega))
  · exact .inr h
theorem rep_eq (x : Array Nat) : ∀ k : Nat, (List.replicate k x).foldl (· ++ ·) #[] = (List.replicate k x.toList).flatten.toArray := fun k => by
  have g : ∀ (k : Nat) (acc : Array Nat), (List.replicate k x).foldl (· ++ ·) acc = (acc.toList ++ (List.replicate k x.toList).flatten).toArray := by
    intro k
    induction k with
    | zero => intro acc; simp
    | succ k ih => intro acc; rw [List.replicate_succ, List.foldl_cons, ih, List.replicate_succ, List.flatten_cons]; simp
  simpa using g k #[]
theorem mul_rep (x : Str) (k : Int) : Txt.mul x k = ⟨(List.replicate k.toNat x.cps.toList).flatten.toArray⟩ := by
  unfold Txt.mul
  split
  · rename_i h
    have : k.toNat = 0 := by omega
    rw [this]; rfl
  · split
    · rename_i h h2
      simp only [Bool.or_eq_true, beq_iff_eq] at h2
      rcases h2 with h2 | h2
      · subst h2
        show x = ⟨(List.replicate 1 x.cps.toList).flatten.toArray⟩
        simp
      · have : x.cps.toList = [] := List.eq_nil_of_length_eq_zero (by rw [Array.length_toList]; exact h2)
        rw [this]
        have e : (List.replicate k.toNat ([] : List Nat)).flatten = [] := by simp
        rw [e]
        cases x with
        | mk c =>
          have : c = #[] := Array.toList_eq_nil_iff.mp this
          rw [this]
    · rw [rep_eq]
theorem mem_rep {α : Type} {x : List α} {a : α} : ∀ {k : Nat}, a ∈ (List.replicate k x).flatten → a ∈ x := fun {k} h => by
  obtain ⟨l, hl, ha⟩ := List.mem_flatten.mp h
  rw [List.eq_of_mem_replicate hl] at ha
  exact ha
theorem len_rep {α : Type} (x : List α) : ∀ k : Nat, ((List.replicate k x).flatten).length = k * x.length := fun k => by
  induction k with
  | zero => simp
  | succ k ih => rw [List.replicate_succ, List.flatten_cons, List.length_append, ih, Nat.succ_mul]; omega
theorem StrG.mem {x : Str} (h : StrG x) : ∀ c ∈ x.cps.toList, c < 0x110000 := fun c hc => by
  have := h.2
  rw [Array.all_eq_true'] at this
  exact of_decide_eq_true (this c (Array.mem_toList_iff.mp hc))
theorem StrG.of {l : List Nat} (h1 : l.length ≤ sizeLine) (h2 : ∀ c ∈ l, c < 0x110000) : StrG ⟨l.toArray⟩ := by
  refine ⟨h1, ?_⟩
  show l.toArray.all (· < 0x110000) = true
  rw [List.all_toArray, List.all_eq_true]
  exact fun c hc => decide_eq_true (h2 c hc)
theorem op_mul_str {X : Cx} : OpR X (binaryOp .Mult) (fun x y H Q => ∃ a k, x = .str a ∧ y = .int k ∧ a.length ≤ sizeLine ∧ k < 2 ^ 62 ∧ -(2 ^ 62) < k ∧ a.length * k.toNat ≤ sizeLine ∧ Q (.str ⟨(List.replicate k.toNat a.cps.toList).flatten.toArray⟩) H) := by
  intro pins s σ H x y v u Q I rx ry h
  obtain ⟨a, k, rfl, rfl, ha, h1, h2, h3, q⟩ := h
  obtain ⟨t, rfl⟩ := rx
  obtain ⟨t', rfl⟩ := ry
  refine SB.mul ⟨?_, fun n1 n2 => ?_, fun n1 n2 => ?_⟩ fun t'' tk => ?_
  · simp only [Bool.or_eq_false_iff, decide_eq_false_iff_not]; omega
  · intro z
    have hk : 0 < k := by omega
    have z2 : (2 ^ 63 - 1) / k < (a.length : Int) := z
    have z3 : (2 ^ 63 - 1 : Int) < a.length * k := (Int.ediv_lt_iff_lt_mul hk).mp z2
    have e : ((a.length * k.toNat : Nat) : Int) = (a.length : Int) * k := by rw [Int.natCast_mul, Int.toNat_of_nonneg (by omega)]
    rw [← e] at z3
    rw [sizeLine_eq] at h3
    omega
  · show decide (_ > sizeLine) = false
    exact decide_eq_false (by omega)
  · rw [mul_rep]
    exact ⟨.str _, H, I.tok _, ⟨_, rfl⟩, q⟩
theorem ok_mul : OpOk S (binaryOp .Mult) mulD := by
  intro σ env Z H F x y dx dy r I rx ry hr Q k
  cases rx with
  | int i =>
    cases ry with
    | int j =>
      simp only [mulD] at hr
      split at hr
      · rename_i hg
        rcases mulG_ok hg with hg | hg
        · exact wop_mk (fun X hX => op_mul) ⟨i, j, rfl, rfl, hg, k_fz I k (Option.some.inj hr).symm (.int _)⟩
        · exact wop_mk (fun X hX => op_mulW) ⟨i, j, rfl, rfl, hg, k_fz I k (Option.some.inj hr).symm (.int _)⟩
      · cases hr
    | _ => cases hr
  | lst h1 l1 r1 =>
    rename_i p1 vs1 ds1
    cases ry with
    | int j =>
      simp only [mulD] at hr
      split at hr
      · rename_i hl
        have e : r = .ol ((List.replicate j.toNat ds1).flatten.map .fz) := (Option.some.inj hr).symm
        have hv : vs1.length * j.toNat ≤ sizeLine := by rw [r1.length]; exact hl.2.2
        refine wop_mk (fun X hX => op_rep) ⟨p1, j, vs1, rfl, rfl, I.sub _ _ h1, by omega, by omega, hv, fun p hp => ?_⟩
        have rr : ∀ n : Nat, Rps Z (List.replicate n vs1).flatten (List.replicate n ds1).flatten := fun n => by
          induction n with
          | zero => exact .nil
          | succ n ih => rw [List.replicate_succ, List.replicate_succ, List.flatten_cons, List.flatten_cons]; exact r1.append ih
        obtain ⟨I', o', s'⟩ := I.newL hp (rr j.toNat) (by rw [len_rep, Nat.mul_comm]; exact hv)
        rw [e] at k
        exact k _ _ _ _ I' o' s'
      · cases hr
    | _ => cases hr
  | str a ha =>
    cases ry with
    | int j =>
      simp only [mulD] at hr
      split at hr
      · rename_i hl
        refine wop_mk (fun X hX => op_mul_str) ⟨a, j, rfl, rfl, ha.1, hl.1, hl.2.1, hl.2.2, k_fz I k (Option.some.inj hr).symm (.str _ (.of ?_ fun c hc => ha.mem c (mem_rep hc)))⟩
        rw [len_rep, Nat.mul_comm, Array.length_toList]
        exact hl.2.2
      · cases hr
    | _ => cases hr
  | _ => cases hr
theorem ok_fdiv : OpOk S (binaryOp .FloorDiv) fdivD := by
  intro σ env Z H F x y dx dy r I rx ry hr Q k
  cases rx with
  | int i =>
    cases ry with
    | int j =>
      simp only [fdivD] at hr
      split at hr
      · rename_i hl
        exact wop_mk (fun X hX => op_fdivW) ⟨i, j, rfl, rfl, hl, k_fz I k (Option.some.inj hr).symm (.int _)⟩
      · cases hr
    | _ => cases hr
  | _ => cases hr
theorem ok_mod : OpOk S (binaryOp .Mod) modD := by
  intro σ env Z H F x y dx dy r I rx ry hr Q k
  cases rx with
  | int i =>
    cases ry with
    | int j =>
      simp only [modD] at hr
      split at hr
      · rename_i hl
        exact wop_mk (fun X hX => op_mod) ⟨i, j, rfl, rfl, hl, k_fz I k (Option.some.inj hr).symm (.int _)⟩
      · cases hr
    | _ => cases hr
  | _ => cases hr
theorem ok_pow : OpOk S (binaryOp .Pow) powD := by
  intro σ env Z H F x y dx dy r I rx ry hr Q k
  cases rx with
  | int i =>
    cases ry with
    | int j =>
      simp only [powD] at hr
      split at hr
      · rename_i hl
        exact wop_mk (fun X hX => op_pow) ⟨i, j, rfl, rfl, hl, k_fz I k (Option.some.inj hr).symm (.int _)⟩
      · cases hr
    | _ => cases hr
  | _ => cases hr
theorem ok_bin (op : Operator) : OpOk S (binaryOp op) (binD op) := by
  cases op with
  | Add => exact ok_add
  | Sub => exact ok_sub
  | Mult => exact ok_mul
  | FloorDiv => exact ok_fdiv
  | Mod => exact ok_mod
  | Pow => exact ok_pow
  | _ => exact fun _ _ _ _ _ _ _ _ _ _ _ _ _ h => by cases h
/-- -a -/
def negD : PyData → Option OV
  | .int a => some (.fz (.int (-a)))
  | _ => none
theorem sv_neg (ha : SD S a ma) : SV S (.UnaryOp .USub a pos) (fun env => (ma env).bind fun da e1 => Rs.o (negD da) e1) := .of fun σ env Z H F I Q mm hm k kx kb => by
  refine ⟨tUn (rU fun i => .int (-i)) (wE S a), fun X hX => pe_un un_neg (pe_w hX), ?_⟩
  refine ha.go I hm kx kb fun da e1 va Z1 H1 F1 _ q1 I1 r1 s1 => ?_
  rw [q1] at kb
  obtain ⟨r, hr⟩ := ro_nb kb
  cases r1 with
  | int i =>
    refine ⟨i, rfl, k _ _ (by rw [q1, hr]; rfl) _ Z1 H1 F1 [] I1 ?_ s1⟩
    have e : r = .fz (.int (-i)) := (Option.some.inj hr).symm
    rw [e]; exact .fz (.int _)
  | _ => cases hr

/-! ### comparisons -/
def depG (a b : PyData) : Bool := decide (min a.depth b.depth ≤ 64)
def eqD (a b : PyData) : Option Bool := match a, b with
  | .dict _, _ => none
  | _, .dict _ => none
  | a, b => if depG a b = true then some (PyData.eqv a b) else none
def ltD : PyData → PyData → Option Bool
  | .int a, .int b => some (decide (a < b))
  | .str a, .str b => some (decide (a.cps.toList < b.cps.toList))
  | _, _ => none
def leD : PyData → PyData → Option Bool
  | .int a, .int b => some (decide (a ≤ b))
  | .str a, .str b => some (!decide (b.cps.toList < a.cps.toList))
  | _, _ => none
def gtD : PyData → PyData → Option Bool
  | .int a, .int b => some (decide (b < a))
  | .str a, .str b => some (decide (b.cps.toList < a.cps.toList))
  | _, _ => none
def geD : PyData → PyData → Option Bool
  | .int a, .int b => some (decide (b ≤ a))
  | .str a, .str b => some (!decide (a.cps.toList < b.cps.toList))
  | _, _ => none
def isD : PyData → PyData → Option Bool
  | .none, .none => some true
  | .bool _, .none => some false
  | .int _, .none => some false
  | .str _, .none => some false
  | .list _, .none => some false
  | .tuple _, .none => some false
  | .bool a, .bool b => some (decide (a = b))
  | _, _ => none
/-- is x in it: of a text (one sign), a list, a tuple -/
def inD : PyData → PyData → Option Bool
  | .str a, .str b => (match a.cps.toList with
    | [c] => some (decide (c ∈ b.cps.toList))
    | _ => some (!(Builtin.Str.occurrences b a 0 b.length 1).isEmpty))
  | x, .list ds => if min (PyData.depthAll ds) x.depth ≤ 64 then some (ds.any fun z => PyData.eqv z x) else none
  | x, .tuple ds => if min (PyData.depthAll ds) x.depth ≤ 64 then some (ds.any fun z => PyData.eqv z x) else none
  | _, _ => none
def cmpD (op : CmpOp) (a b : PyData) : Option Bool := match op with
  | .Eq => eqD a b
  | .NotEq => (eqD a b).map (!·)
  | .Lt => ltD a b
  | .LtE => leD a b
  | .Gt => gtD a b
  | .GtE => geD a b
  | .Is => isD a b
  | .IsNot => (isD a b).map (!·)
  | .In => inD a b
  | .NotIn => (inD a b).map (!·)
/-- a comparison of values keeps to g -/
def CmpOk (S : Ctx) (f : Value → Value → Sem Value) (g : PyData → PyData → Option Bool) : Prop := ∀ (H : Hp) (x y : V) (dx dy : PyData) (b : Bool), Rp H x dx → Rp H y dy → g dx dy = some b →
  ∀ Q : VK, Q (.bl b) H → wOp S f x y H Q
/-- == by the model's own reading, of data without dicts -/
def rEqP (K : PySem.W.Frag) : R2 := fun x y H Q => ∃ d e, Dp K H x d ∧ Dp K H y e ∧ d.canLay0 = true ∧ e.canLay0 = true ∧ min d.depth e.depth ≤ 64 ∧ Q (.bl (PyData.eqv d e)) H
theorem op_eqP {X : Cx} (hu : X.A.units + 64 < cLine) : OpR X (compareOp .Eq) (rEqP X.K) := by
  intro pins s σ H x y v u Q I rx ry h
  obtain ⟨d, e, hd, he, sd, se, hm, q⟩ := h
  obtain ⟨as, r1⟩ := Dp.reads I d x v hd rx
  obtain ⟨bs, r2⟩ := Dp.reads I e y u he ry
  exact SeqAt.compareEq_reads r1 r2 sd se (by omega) ⟨.bl _, H, I, rfl, q⟩
def rNeP (K : PySem.W.Frag) : R2 := fun x y H Q => ∃ d e, Dp K H x d ∧ Dp K H y e ∧ d.canLay0 = true ∧ e.canLay0 = true ∧ min d.depth e.depth ≤ 64 ∧ Q (.bl (!PyData.eqv d e)) H
theorem op_neP {X : Cx} (hu : X.A.units + 64 < cLine) : OpR X (compareOp .NotEq) (rNeP X.K) := by
  intro pins s σ H x y v u Q I rx ry h
  obtain ⟨d, e, hd, he, sd, se, hm, q⟩ := h
  obtain ⟨as, r1⟩ := Dp.reads I d x v hd rx
  obtain ⟨bs, r2⟩ := Dp.reads I e y u he ry
  exact SeqAt.compareNe_reads r1 r2 sd se (by omega) ⟨.bl _, H, I, rfl, q⟩
theorem hu_has {X : Cx} (h : S.has X) : X.A.units + 64 < cLine := h.room.units
theorem hu65 {X : Cx} (h : S.has X) : X.A.units + 66 < cLine := by have := h.room.un; omega
theorem eqD_some {a b : PyData} {r : Bool} (h : eqD a b = some r) : min a.depth b.depth ≤ 64 ∧ r = PyData.eqv a b := by
  have g : (if depG a b = true then some (PyData.eqv a b) else none) = some r := by
    cases a <;> first
      | (cases h; done)
      | (cases b <;> first | (cases h; done) | exact h)
  split at g
  · rename_i q
    exact ⟨of_decide_eq_true q, (Option.some.inj g).symm⟩
  · cases g
theorem ok_eq : CmpOk S (compareOp .Eq) eqD := fun H x y dx dy b rx ry h Q q => by
  obtain ⟨hm, e⟩ := eqD_some h
  exact wop_mk (R := rEqP S.K) (fun X hX => by rw [← hX.K]; exact op_eqP (hu_has hX)) ⟨dx, dy, rx.dp, ry.dp, rx.can, ry.can, hm, by rw [← e]; exact q⟩
theorem map_not {o : Option Bool} {b : Bool} (h : o.map (!·) = some b) : o = some (!b) := by
  cases o with
  | none => cases h
  | some c => cases h; simp
theorem ok_ne : CmpOk S (compareOp .NotEq) (fun a b => (eqD a b).map (!·)) := fun H x y dx dy b rx ry h Q q => by
  obtain ⟨hm, e⟩ := eqD_some (map_not h)
  exact wop_mk (R := rNeP S.K) (fun X hX => by rw [← hX.K]; exact op_neP (hu_has hX)) ⟨dx, dy, rx.dp, ry.dp, rx.can, ry.can, hm, by rw [← e]; simpa using q⟩
theorem ok_lt : CmpOk S (compareOp .Lt) ltD := fun H x y dx dy b rx ry h Q q => by
  cases rx with
  | int i => cases ry with
    | int j => cases h; exact wop_mk (fun X hX => op_lt) ⟨i, j, rfl, rfl, q⟩
    | _ => cases h
  | str i _ => cases ry with
    | str j _ => cases h; exact wop_mk (fun X hX => op_lt_str) ⟨i, j, rfl, rfl, q⟩
    | _ => cases h
  | _ => cases h
theorem ok_le : CmpOk S (compareOp .LtE) leD := fun H x y dx dy b rx ry h Q q => by
  cases rx with
  | int i => cases ry with
    | int j => cases h; exact wop_mk (fun X hX => op_le) ⟨i, j, rfl, rfl, q⟩
    | _ => cases h
  | str i _ => cases ry with
    | str j _ => cases h; exact wop_mk (fun X hX => op_le_str) ⟨i, j, rfl, rfl, q⟩
    | _ => cases h
  | _ => cases h
theorem ok_gt : CmpOk S (compareOp .Gt) gtD := fun H x y dx dy b rx ry h Q q => by
  cases rx with
  | int i => cases ry with
    | int j => cases h; exact wop_mk (fun X hX => op_gt) ⟨i, j, rfl, rfl, q⟩
    | _ => cases h
  | str i _ => cases ry with
    | str j _ => cases h; exact wop_mk (fun X hX => op_gt_str) ⟨i, j, rfl, rfl, q⟩
    | _ => cases h
  | _ => cases h
theorem ok_ge : CmpOk S (compareOp .GtE) geD := fun H x y dx dy b rx ry h Q q => by
  cases rx with
  | int i => cases ry with
    | int j => cases h; exact wop_mk (fun X hX => op_ge) ⟨i, j, rfl, rfl, q⟩
    | _ => cases h
  | str i _ => cases ry with
    | str j _ => cases h; exact wop_mk (fun X hX => op_ge_str) ⟨i, j, rfl, rfl, q⟩
    | _ => cases h
  | _ => cases h
theorem ok_is : CmpOk S (compareOp .Is) isD := fun H x y dx dy b rx ry h Q q => by
  cases ry with
  | non =>
    cases rx <;> first
      | (cases h; exact wop_mk (fun X hX => op_isN) ⟨rfl, by simpa using q⟩)
      | cases h
  | bl j => cases rx with
    | bl i => cases h; exact wop_mk (fun X hX => op_isBl) ⟨i, j, rfl, rfl, q⟩
    | _ => cases h
  | _ => cases rx <;> cases h
theorem ok_isnot : CmpOk S (compareOp .IsNot) (fun a b => (isD a b).map (!·)) := fun H x y dx dy b rx ry h Q q => by
  have h := map_not h
  have q : Q (.bl (!(!b))) H := by simpa using q
  generalize (!b) = b' at h q
  cases ry with
  | non =>
    cases rx <;> first
      | (cases h; exact wop_mk (fun X hX => op_notN) ⟨rfl, by simpa using q⟩)
      | cases h
  | bl j => cases rx with
    | bl i => cases h; exact wop_mk (fun X hX => op_notBl) ⟨i, j, rfl, rfl, q⟩
    | _ => cases h
  | _ => cases rx <;> cases h
def rInP (K : PySem.W.Frag) (neg : Bool) : R2 := fun x y H Q => ∃ d ds, Dp K H x d ∧ (Dp K H y (.list ds) ∨ Dp K H y (.tuple ds)) ∧ d.canLay0 = true ∧ PyData.canLayAll0 ds = true ∧ min (PyData.depthAll ds) d.depth ≤ 64 ∧
  Q (.bl (if neg = true then !ds.any fun z => PyData.eqv z d else ds.any fun z => PyData.eqv z d)) H
theorem op_inP {X : Cx} (hu : X.A.units + 66 < cLine) : OpR X (compareOp .In) (rInP X.K false) := by
  intro pins s σ H x y v u Q I rx ry h
  obtain ⟨d, ds, hd, he, sd, se, hm, q⟩ := h
  obtain ⟨as, r1⟩ := Dp.reads I d x v hd rx
  rcases he with he | he
  · obtain ⟨bs, r2⟩ := Dp.reads I (.list ds) y u he ry
    exact SeqAt.in_list_reads r2 r1 se sd (by omega) ⟨.bl _, H, I, rfl, q⟩
  · obtain ⟨bs, r2⟩ := Dp.reads I (.tuple ds) y u he ry
    exact SeqAt.in_tuple_reads r2 r1 se sd (by omega) ⟨.bl _, H, I, rfl, q⟩
theorem op_notInP {X : Cx} (hu : X.A.units + 66 < cLine) : OpR X (compareOp .NotIn) (rInP X.K true) := by
  intro pins s σ H x y v u Q I rx ry h
  obtain ⟨d, ds, hd, he, sd, se, hm, q⟩ := h
  obtain ⟨as, r1⟩ := Dp.reads I d x v hd rx
  rcases he with he | he
  · obtain ⟨bs, r2⟩ := Dp.reads I (.list ds) y u he ry
    exact SeqAt.notIn_list_reads r2 r1 se sd (by omega) ⟨.bl _, H, I, rfl, q⟩
  · obtain ⟨bs, r2⟩ := Dp.reads I (.tuple ds) y u he ry
    exact SeqAt.notIn_tuple_reads r2 r1 se sd (by omega) ⟨.bl _, H, I, rfl, q⟩
theorem inD_cases {dx dy : PyData} {b : Bool} (h : inD dx dy = some b) : (∃ (c : Nat) (z : Str), dx = .str ⟨#[c]⟩ ∧ dy = .str z ∧ b = decide (c ∈ z.cps.toList)) ∨ (∃ i j : Str, dx = .str i ∧ dy = .str j ∧ b = !(Builtin.Str.occurrences j i 0 j.length 1).isEmpty) ∨
    ∃ ds, (dy = .list ds ∨ dy = .tuple ds) ∧ min (PyData.depthAll ds) dx.depth ≤ 64 ∧ b = ds.any fun z => PyData.eqv z dx := by
  have lt : ∀ ds : List PyData, (if min (PyData.depthAll ds) dx.depth ≤ 64 then some (ds.any fun z => PyData.eqv z dx) else none) = some b → min (PyData.depthAll ds) dx.depth ≤ 64 ∧ b = ds.any fun z => PyData.eqv z dx := fun ds g => by
    split at g
    · rename_i z
      exact ⟨z, (Option.some.inj g).symm⟩
    · cases g
  cases dy with
  | list ds => exact .inr (.inr ⟨ds, .inl rfl, lt ds (by cases dx <;> exact h)⟩)
  | tuple ds => exact .inr (.inr ⟨ds, .inr rfl, lt ds (by cases dx <;> exact h)⟩)
  | str j =>
    cases dx with
    | str i =>
      obtain ⟨⟨l⟩⟩ := i
      match l, h with
      | [c], h => exact .inl ⟨c, j, rfl, rfl, (Option.some.inj h).symm⟩
      | [], h => exact .inr (.inl ⟨_, j, rfl, rfl, (Option.some.inj h).symm⟩)
      | _ :: _ :: _, h => exact .inr (.inl ⟨_, j, rfl, rfl, (Option.some.inj h).symm⟩)
    | _ => cases h
  | _ => cases dx <;> cases h
theorem ok_in : CmpOk S (compareOp .In) inD := fun H x y dx dy b rx ry h Q q => by
  rcases inD_cases h with ⟨c, z, rfl, rfl, rfl⟩ | ⟨i, j, rfl, rfl, rfl⟩ | ⟨ds, e, hm, rfl⟩
  · cases rx; cases ry
    exact wop_mk (fun X hX => op_in_sign) ⟨c, z, rfl, rfl, q⟩
  · cases rx; cases ry
    exact wop_mk (fun X hX => op_in_str) ⟨i, j, rfl, rfl, q⟩
  · refine wop_mk (R := rInP S.K false) (fun X hX => by rw [← hX.K]; exact op_inP (hu65 hX)) ⟨dx, ds, rx.dp, ?_, rx.can, ?_, hm, q⟩
    · rcases e with rfl | rfl
      · exact .inl ry.dp
      · exact .inr ry.dp
    · rcases e with rfl | rfl <;> exact ry.can
theorem ok_notin : CmpOk S (compareOp .NotIn) (fun a b => (inD a b).map (!·)) := fun H x y dx dy b rx ry h Q q => by
  have h := map_not h
  have q : Q (.bl (!(!b))) H := by simpa using q
  generalize (!b) = b' at h q
  rcases inD_cases h with ⟨c, z, rfl, rfl, rfl⟩ | ⟨i, j, rfl, rfl, rfl⟩ | ⟨ds, e, hm, rfl⟩
  · cases rx; cases ry
    exact wop_mk (fun X hX => op_notIn_sign) ⟨c, z, rfl, rfl, q⟩
  · cases rx; cases ry
    exact wop_mk (fun X hX => op_notin_str) ⟨i, j, rfl, rfl, q⟩
  · refine wop_mk (R := rInP S.K true) (fun X hX => by rw [← hX.K]; exact op_notInP (hu65 hX)) ⟨dx, ds, rx.dp, ?_, rx.can, ?_, hm, q⟩
    · rcases e with rfl | rfl
      · exact .inl ry.dp
      · exact .inr ry.dp
    · rcases e with rfl | rfl <;> exact ry.can
theorem ok_cmp (op : CmpOp) : CmpOk S (compareOp op) (cmpD op) := by
  cases op with
  | Eq => exact ok_eq
  | NotEq => exact ok_ne
  | Lt => exact ok_lt
  | LtE => exact ok_le
  | Gt => exact ok_gt
  | GtE => exact ok_ge
  | Is => exact ok_is
  | IsNot => exact ok_isnot
  | In => exact ok_in
  | NotIn => exact ok_notin
/-- a op b, as a truth value -/
def cmp2 (ma mb : M PyData) (g : PyData → PyData → Option Bool) : M Bool := fun env => (ma env).bind fun da e1 => (mb e1).bind fun db e2 => match g da db with
  | some r => .ok r e2
  | none => .bad
theorem notSet {e : Expr} {op : CmpOp} (h : ∀ es k p, e ≠ .Set es k p) : behindInMarks op e = false := by
  cases e <;> first | rfl | exact absurd rfl (h _ _ _)
theorem cmp_core {op : CmpOp} {β : Type} {α : Type} {mm : Rs β} {kk : Bool → Env → Rs β} (ha : SD S a ma) (hb : SD S b mb) {σ : St} {env : Env} {Z H : Hp} {F : Fp} (I : SI S.K Z H σ env F) (hm : mm = (cmp2 ma mb (cmpD op) env).bind kk) (kx : KX S σ Z H F mm) (kb : mm ≠ .bad) {Q : VK}
    (k : ∀ r env' Z' H' F', mm = kk r env' → SI S.K Z' H' σ env' F' → Stp Z H F Z' H' F' [] → Q (.bl r) H') : tOp (wOp S (compareOp op)) (wE S a) (wE S b) σ H Q := by
  have hm1 : mm = (ma env).bind fun da e1 => ((mb e1).bind fun db e2 => match cmpD op da db with | some r => Rs.ok r e2 | none => .bad).bind kk := by
    rw [hm]; unfold cmp2; cases ma env <;> rfl
  refine ha.go I hm1 kx kb fun da e1 va Z1 H1 F1 _ q1 I1 r1 s1 => ?_
  have hm2 : mm = (mb e1).bind fun db e2 => (match cmpD op da db with | some r => Rs.ok r e2 | none => .bad).bind kk := by
    rw [q1]; cases mb e1 <;> rfl
  refine hb.go I1 hm2 (kx.step s1) kb fun db e2 vb Z2 H2 F2 _ q2 I2 r2 s2 => ?_
  cases hr : cmpD op da db with
  | none => rw [hr] at q2; exact absurd q2 kb
  | some r =>
    rw [hr] at q2
    exact ok_cmp op H2 va vb da db r (I2.at (r1.mono s2.zz)) (I2.at r2) hr Q (k r e2 Z2 H2 F2 q2 I2 (s1.trans0 s2))
theorem sd_cmp {op : CmpOp} (ha : SD S a ma) (hb : SD S b mb) (hs : ∀ es k p, b ≠ .Set es k p) : SD S (.Compare a [op] [b] pos) (fun env => (cmp2 ma mb (cmpD op) env).bind fun r e => .ok (.bool r) e) := .of fun σ env Z H F I Q mm hm k kx kb => by
  refine ⟨tOp (wOp S (compareOp op)) (wE S a) (wE S b), fun X hX => pe_cmpR (op_w hX) (pe_w hX) (pe_w hX) (notSet hs), ?_⟩
  exact cmp_core (α := Unit) ha hb I hm kx kb fun r env' Z' H' F' q I' s' => k _ _ q _ Z' H' F' I' (.bl r) s'
theorem sb_cmp {op : CmpOp} (ha : SD S a ma) (hb : SD S b mb) (hs : ∀ es k p, b ≠ .Set es k p) : SB S (.Compare a [op] [b] pos) (cmp2 ma mb (cmpD op)) := .of fun σ env Z H F I Q mm hm k kx kb => by
  refine ⟨tTest (tOp (wOp S (compareOp op)) (wE S a) (wE S b)), fun X hX => pt_cmpR (op_w hX) (pe_w hX) (pe_w hX) (notSet hs), ?_⟩
  have hm2 : mm = (cmp2 ma mb (cmpD op) env).bind fun r e => .ok r e := by rw [hm]; cases cmp2 ma mb (cmpD op) env <;> rfl
  exact cmp_core (α := Unit) ha hb I hm2 kx kb fun r env' Z' H' F' q I' s' => ⟨r, rfl, k _ _ q Z' H' F' I' s'⟩
end
end Vi

set_option Elab.async false
set_option linter.all false
set_option maxRecDepth 100000
namespace Vi
open PySem L2
section
variable {S : Ctx} {a b c e : Expr} {es : List Expr} {ma mb mc : M PyData} {ta tb tc : M Bool} {g : PyData → PyData → Option OV} {pos : Pos} {rest : List Expr}

/-! ### truth -/
def truthD : PyData → Option Bool
  | .none => some false
  | .bool b => some b
  | .int i => some (i != 0)
  | .str x => some ((x.length : Int) != 0)
  | .list xs => some (!xs.isEmpty)
  | .tuple xs => some (!xs.isEmpty)
  | .dict _ => none
def Rs.tst (m : Rs PyData) : Rs Bool := m.bind fun d e => match truthD d with
  | some r => .ok r e
  | none => .bad
def plainT : Expr → Bool
  | .UnaryOp .Not _ _ => false
  | .BoolOp _ _ _ => false
  | .IfExp _ _ _ _ => false
  | .Compare _ _ _ _ => false
  | _ => true
theorem plainT_eq {env : PySem.Env} (h : plainT e = true) : ∀ whole, isTrue e env whole = (do let v ← whole; standAt e.pos; holding [v] (truthy v)) := fun whole => by
  cases e with
  | UnaryOp op _ _ => cases op <;> first | rfl | (cases h; done)
  | BoolOp _ _ _ => cases h
  | IfExp _ _ _ _ => cases h
  | Compare _ _ _ _ => cases h
  | _ => rfl
theorem Rps.empty {H : Hp} {vs : List V} {ds : List PyData} (r : Rps H vs ds) : vs.isEmpty = ds.isEmpty := by cases r <;> rfl
theorem Rp.tru {K : PySem.W.Frag} {H : Hp} {v : V} {d : PyData} {k : Bool} (r : Rp H v d) (h : truthD d = some k) : TruV K v H k := by
  cases r with
  | non => cases h; rfl
  | bl b => cases h; rfl
  | int i => cases h; rfl
  | str x hx => cases h; exact ⟨hx.1, rfl⟩
  | lst h1 l r => cases h; exact .inl ⟨_, .inl (.inl h1), by rw [r.empty]⟩
  | tup h1 l r => cases h; exact .inr (.inl ⟨_, .inl (.inl h1), by rw [r.empty]⟩)
/-- a value as a test -/
theorem SD.tst (ha : SD S a ma) (h : plainT a = true) : SB S a (fun env => (ma env).tst) := .of fun σ env Z H F I Q mm hm k kx kb => by
  refine ⟨fun σ H Q => wE S a σ H fun x H' => ∃ k, TruV S.K x H' k ∧ Q k H', fun X hX => by rw [← hX.K]; exact pt_truth (pe_w hX) (plainT_eq h), ?_⟩
  refine ha.go I hm kx kb fun da e1 va Z1 H1 F1 _ q1 I1 r1 s1 => ?_
  cases q : truthD da with
  | none => rw [q] at q1; exact absurd q1 kb
  | some t => rw [q] at q1; exact ⟨t, (I1.at r1).tru q, k _ _ q1 Z1 H1 F1 I1 s1⟩
/-! ### and, or, not as tests -/
theorem SW.sb {t : M Bool} (h : SW S e t) : SB S e t := .of fun σ env Z H F I Q mm hm k kx kb =>
  ⟨wW S e, fun X hX => (pw_w hX).pt, h σ env Z H F I Q (fun b e1 q => k b e1 (hm.trans q)) (by rw [← hm]; exact kx) (by rw [← hm]; exact kb)⟩
theorem sw_and1 (h : SB S a ta) : SW S (.BoolOp .And [a] pos) ta := fun σ env Z H F I Q k kx kb =>
  ⟨wT S a, fun X hX => pw_and1 (pt_w hX), h σ env Z H F I Q k kx kb⟩
theorem sw_or1 (h : SB S a ta) : SW S (.BoolOp .Or [a] pos) ta := fun σ env Z H F I Q k kx kb =>
  ⟨wT S a, fun X hX => pw_or1 (pt_w hX), h σ env Z H F I Q k kx kb⟩
def andT (ta tb : M Bool) : M Bool := fun env => (ta env).bind fun r e1 => if r = true then tb e1 else .ok false e1
def orT (ta tb : M Bool) : M Bool := fun env => (ta env).bind fun r e1 => if r = true then .ok true e1 else tb e1
theorem Rs.bind_id {mm : Rs Bool} : mm.bind (fun r e => .ok r e) = mm := by cases mm <;> rfl
theorem sw_and (ha : SB S a ta) (hb : SW S (.BoolOp .And (b :: rest) pos) tb) : SW S (.BoolOp .And (a :: b :: rest) pos) (andT ta tb) := .of fun σ env Z H F I Q mm hm k kx kb => by
  refine ⟨tAnd (wT S a) (wW S (.BoolOp .And (b :: rest) pos)), fun X hX => pw_and (pt_w hX) (pw_w hX), ?_⟩
  refine ha.go I hm kx kb fun r e1 Z1 H1 F1 _ q1 I1 s1 => ?_
  cases r with
  | true =>
    rw [if_pos rfl] at q1
    exact iteT (hb.go I1 (q1.trans Rs.bind_id.symm) (kx.step s1) kb fun r2 e2 Z2 H2 F2 _ q2 I2 s2 => k _ _ q2 Z2 H2 F2 I2 (s1.trans0 s2))
  | false =>
    rw [if_neg Bool.false_ne_true] at q1
    exact iteF (k _ _ q1 Z1 H1 F1 I1 s1)
theorem sw_or (ha : SB S a ta) (hb : SW S (.BoolOp .Or (b :: rest) pos) tb) : SW S (.BoolOp .Or (a :: b :: rest) pos) (orT ta tb) := .of fun σ env Z H F I Q mm hm k kx kb => by
  refine ⟨tOr (wT S a) (wW S (.BoolOp .Or (b :: rest) pos)), fun X hX => pw_or (pt_w hX) (pw_w hX), ?_⟩
  refine ha.go I hm kx kb fun r e1 Z1 H1 F1 _ q1 I1 s1 => ?_
  cases r with
  | true =>
    rw [if_pos rfl] at q1
    exact iteT (k _ _ q1 Z1 H1 F1 I1 s1)
  | false =>
    rw [if_neg Bool.false_ne_true] at q1
    exact iteF (hb.go I1 (q1.trans Rs.bind_id.symm) (kx.step s1) kb fun r2 e2 Z2 H2 F2 _ q2 I2 s2 => k _ _ q2 Z2 H2 F2 I2 (s1.trans0 s2))
def notT (ta : M Bool) : M Bool := fun env => (ta env).bind fun r e1 => .ok (!r) e1
theorem sb_not (ha : SB S a ta) : SB S (.UnaryOp .Not a pos) (notT ta) := .of fun σ env Z H F I Q mm hm k kx kb => by
  refine ⟨tNot (wT S a), fun X hX => pt_not (pt_w hX), ?_⟩
  exact ha.go I hm kx kb fun r e1 Z1 H1 F1 _ q1 I1 s1 => k _ _ q1 Z1 H1 F1 I1 s1
/-! ### .. as values -/
def isB : PyData → Option Bool
  | .bool b => some b
  | _ => none
def andV (ma mb : M PyData) : M PyData := fun env => (ma env).bind fun d e1 => match isB d with
  | some true => mb e1
  | some false => .ok (.bool false) e1
  | none => .bad
def orV (ma mb : M PyData) : M PyData := fun env => (ma env).bind fun d e1 => match isB d with
  | some true => .ok (.bool true) e1
  | some false => mb e1
  | none => .bad
theorem Rs.bind_idD {mm : Rs PyData} : mm.bind (fun r e => .ok r e) = mm := by cases mm <;> rfl
theorem isB_some {d : PyData} {r : Bool} (h : isB d = some r) : d = .bool r := by
  cases d <;> first | (cases h; rfl) | cases h
theorem isB_nb {α : Type} {d : PyData} {x y : Rs α} {mm : Rs α} (h : mm = (match isB d with | some true => x | some false => y | none => .bad)) (kb : mm ≠ .bad) : ∃ r, d = .bool r := by
  cases q : isB d with
  | none => rw [q] at h; exact absurd h kb
  | some r => exact ⟨r, isB_some q⟩
theorem sd_one {op : BoolOp} (h : SD S a ma) : SD S (.BoolOp op [a] pos) ma := fun σ env Z H F I Q k kx kb => ⟨wE S a, fun X hX => pe_one (pe_w hX), h σ env Z H F I Q k kx kb⟩
theorem sd_and (ha : SD S a ma) (hb : SD S (.BoolOp .And (b :: rest) pos) mb) : SD S (.BoolOp .And (a :: b :: rest) pos) (andV ma mb) := .of fun σ env Z H F I Q mm hm k kx kb => by
  refine ⟨tAndV (wE S a) (wE S (.BoolOp .And (b :: rest) pos)), fun X hX => pe_and (pe_w hX) (pe_w hX), ?_⟩
  refine ha.go I hm kx kb fun d e1 va Z1 H1 F1 _ q1 I1 r1 s1 => ?_
  obtain ⟨r, rfl⟩ := isB_nb q1 kb
  cases r1
  refine ⟨r, rfl, ?_⟩
  cases r with
  | true => exact iteT (hb.go I1 (q1.trans Rs.bind_idD.symm) (kx.step s1) kb fun d2 e2 v2 Z2 H2 F2 _ q2 I2 r2 s2 => k _ _ q2 v2 Z2 H2 F2 I2 r2 (s1.trans0 s2))
  | false => exact iteF (k _ _ q1 _ Z1 H1 F1 I1 (.bl false) s1)
theorem sd_or (ha : SD S a ma) (hb : SD S (.BoolOp .Or (b :: rest) pos) mb) : SD S (.BoolOp .Or (a :: b :: rest) pos) (orV ma mb) := .of fun σ env Z H F I Q mm hm k kx kb => by
  refine ⟨tOrV (wE S a) (wE S (.BoolOp .Or (b :: rest) pos)), fun X hX => pe_or (pe_w hX) (pe_w hX), ?_⟩
  refine ha.go I hm kx kb fun d e1 va Z1 H1 F1 _ q1 I1 r1 s1 => ?_
  obtain ⟨r, rfl⟩ := isB_nb q1 kb
  cases r1
  refine ⟨r, rfl, ?_⟩
  cases r with
  | true => exact iteT (k _ _ q1 _ Z1 H1 F1 I1 (.bl true) s1)
  | false => exact iteF (hb.go I1 (q1.trans Rs.bind_idD.symm) (kx.step s1) kb fun d2 e2 v2 Z2 H2 F2 _ q2 I2 r2 s2 => k _ _ q2 v2 Z2 H2 F2 I2 r2 (s1.trans0 s2))
def notV (ma : M PyData) : M PyData := fun env => (ma env).bind fun d e1 => match isB d with
  | some true => .ok (.bool false) e1
  | some false => .ok (.bool true) e1
  | none => .bad
theorem sd_not (ha : SD S a ma) : SD S (.UnaryOp .Not a pos) (notV ma) := .of fun σ env Z H F I Q mm hm k kx kb => by
  refine ⟨tNotV (wE S a), fun X hX => pe_not (pe_w hX), ?_⟩
  refine ha.go I hm kx kb fun d e1 va Z1 H1 F1 _ q1 I1 r1 s1 => ?_
  obtain ⟨r, rfl⟩ := isB_nb q1 kb
  cases r1
  refine ⟨r, rfl, ?_⟩
  cases r with
  | true => exact k _ _ q1 _ Z1 H1 F1 I1 (.bl false) s1
  | false => exact k _ _ q1 _ Z1 H1 F1 I1 (.bl true) s1
/-! ### a if t else b -/
def iteV (tc : M Bool) (ma mb : M OV) : M OV := fun env => (tc env).bind fun r e1 => if r = true then ma e1 else mb e1
theorem Rs.bind_idO {mm : Rs OV} : mm.bind (fun r e => .ok r e) = mm := by cases mm <;> rfl
theorem sv_ite {ma mb : M OV} (hc : SB S c tc) (ha : SV S a ma) (hb : SV S b mb) : SV S (.IfExp c a b pos) (iteV tc ma mb) := .of fun σ env Z H F I Q mm hm k kx kb => by
  refine ⟨tIf (wT S c) (wE S a) (wE S b), fun X hX => pe_ifExp (pt_w hX) (pe_w hX) (pe_w hX), ?_⟩
  refine hc.go I hm kx kb fun r e1 Z1 H1 F1 _ q1 I1 s1 => ?_
  cases r with
  | true =>
    rw [if_pos rfl] at q1
    exact iteT (ha.go I1 (q1.trans Rs.bind_idO.symm) (kx.step s1) kb fun d2 e2 v2 Z2 H2 F2 G _ q2 I2 r2 s2 => k _ _ q2 v2 Z2 H2 F2 G I2 r2 (s1.trans0 s2))
  | false =>
    rw [if_neg Bool.false_ne_true] at q1
    exact iteF (hb.go I1 (q1.trans Rs.bind_idO.symm) (kx.step s1) kb fun d2 e2 v2 Z2 H2 F2 G _ q2 I2 r2 s2 => k _ _ q2 v2 Z2 H2 F2 G I2 r2 (s1.trans0 s2))
/-! ### a < b < c -/
def chain2 (ma mb mc : M PyData) (g h : PyData → PyData → Option Bool) : M Bool := fun env => (ma env).bind fun da e1 => (mb e1).bind fun db e2 => match g da db with
  | some true => (mc e2).bind fun dc e3 => (match h db dc with
    | some r => .ok r e3
    | none => .bad)
  | some false => .ok false e2
  | none => .bad
theorem chain_core {op op' : CmpOp} {β : Type} {mm : Rs β} {kk : Bool → Env → Rs β} (ha : SD S a ma) (hb : SD S b mb) (hc : SD S c mc) {σ : St} {env : Env} {Z H : Hp} {F : Fp} (I : SI S.K Z H σ env F) (hm : mm = (chain2 ma mb mc (cmpD op) (cmpD op') env).bind kk) (kx : KX S σ Z H F mm) (kb : mm ≠ .bad) {Q : VK}
    (k : ∀ r env' Z' H' F', mm = kk r env' → SI S.K Z' H' σ env' F' → Stp Z H F Z' H' F' [] → Q (.bl r) H') : tChain (wOp S (compareOp op)) (wOp S (compareOp op')) (wE S a) (wE S b) (wE S c) σ H Q := by
  have hm1 : mm = (ma env).bind fun da e1 => ((mb e1).bind fun db e2 => match cmpD op da db with
      | some true => (mc e2).bind fun dc e3 => (match cmpD op' db dc with | some r => Rs.ok r e3 | none => .bad)
      | some false => .ok false e2
      | none => .bad).bind kk := by
    rw [hm]; unfold chain2; cases ma env <;> rfl
  refine ha.go I hm1 kx kb fun da e1 va Z1 H1 F1 _ q1 I1 r1 s1 => ?_
  have hm2 : mm = (mb e1).bind fun db e2 => (match cmpD op da db with
      | some true => (mc e2).bind fun dc e3 => (match cmpD op' db dc with | some r => Rs.ok r e3 | none => .bad)
      | some false => .ok false e2
      | none => .bad).bind kk := by
    rw [q1]; cases mb e1 <;> rfl
  refine hb.go I1 hm2 (kx.step s1) kb fun db e2 vb Z2 H2 F2 _ q2 I2 r2 s2 => ?_
  cases hr : cmpD op da db with
  | none => rw [hr] at q2; exact absurd q2 kb
  | some r =>
    rw [hr] at q2
    refine ok_cmp op H2 va vb da db r (I2.at (r1.mono s2.zz)) (I2.at r2) hr _ ⟨r, rfl, ?_⟩
    cases r with
    | false => exact iteF (k false e2 Z2 H2 F2 q2 I2 (s1.trans0 s2))
    | true =>
      refine iteT ?_
      have hm3 : mm = (mc e2).bind fun dc e3 => (match cmpD op' db dc with | some r => Rs.ok r e3 | none => .bad).bind kk := by
        rw [q2]; show ((mc e2).bind _).bind kk = _; cases mc e2 <;> rfl
      refine hc.go I2 hm3 ((kx.step s1).step s2) kb fun dc e3 vc Z3 H3 F3 _ q3 I3 r3 s3 => ?_
      cases hr3 : cmpD op' db dc with
      | none => rw [hr3] at q3; exact absurd q3 kb
      | some r' =>
        rw [hr3] at q3
        exact ok_cmp op' H3 vb vc db dc r' (I3.at (r2.mono s3.zz)) (I3.at r3) hr3 Q (k r' e3 Z3 H3 F3 q3 I3 ((s1.trans0 s2).trans0 s3))
theorem lastM {op op' : CmpOp} (hs : ∀ es k p, c ≠ .Set es k p) : lastMarks [op, op'] [b, c] = false := by
  show lastMarks [op'] [c] = false
  exact notSet hs
theorem sd_chain {op op' : CmpOp} (ha : SD S a ma) (hb : SD S b mb) (hc : SD S c mc) (hs : ∀ es k p, c ≠ .Set es k p) : SD S (.Compare a [op, op'] [b, c] pos) (fun env => (chain2 ma mb mc (cmpD op) (cmpD op') env).bind fun r e => .ok (.bool r) e) := .of fun σ env Z H F I Q mm hm k kx kb => by
  refine ⟨tChain (wOp S (compareOp op)) (wOp S (compareOp op')) (wE S a) (wE S b) (wE S c), fun X hX => pe_chain (op_w hX) (op_w hX) (pe_w hX) (pe_w hX) (pe_w hX) (lastM hs), ?_⟩
  exact chain_core ha hb hc I hm kx kb fun r env' Z' H' F' q I' s' => k _ _ q _ Z' H' F' I' (.bl r) s'
theorem sb_chain {op op' : CmpOp} (ha : SD S a ma) (hb : SD S b mb) (hc : SD S c mc) (hs : ∀ es k p, c ≠ .Set es k p) : SB S (.Compare a [op, op'] [b, c] pos) (chain2 ma mb mc (cmpD op) (cmpD op')) := .of fun σ env Z H F I Q mm hm k kx kb => by
  refine ⟨tTest (tChain (wOp S (compareOp op)) (wOp S (compareOp op')) (wE S a) (wE S b) (wE S c)), fun X hX => pt_chain (op_w hX) (op_w hX) (pe_w hX) (pe_w hX) (pe_w hX) (lastM hs), ?_⟩
  exact chain_core ha hb hc I (hm.trans Rs.bind_id.symm) kx kb fun r env' Z' H' F' q I' s' => ⟨r, rfl, k _ _ q Z' H' F' I' s'⟩

/-! ### argument lists, displays -/
def notStar : Expr → Bool
  | .Starred _ _ => false
  | _ => true
theorem star_cons {env : PySem.Env} (h : notStar e = true) : starEach (e :: es) env = (false, PySem.eval e env) :: starEach es env := by
  cases e <;> first | rfl | cases h
theorem sl_nil : SL S [] (fun env => .ok [] env) := fun σ env Z H F I Q k _ _ => ⟨tNil, fun X hX => pa_nil, k _ _ rfl [] Z H F I .nil .refl⟩
def consL (ma : M PyData) (ml : M (List PyData)) : M (List PyData) := fun env => (ma env).bind fun d e1 => (ml e1).bind fun ds e2 => .ok (d :: ds) e2
theorem sl_cons {ml : M (List PyData)} (ha : SD S a ma) (hl : SL S es ml) (hn : notStar a = true) : SL S (a :: es) (consL ma ml) := .of fun σ env Z H F I Q mm hm k kx kb => by
  refine ⟨tCons (wE S a) (wA S es), fun X hX => pa_cons (pe_w hX) (pa_w hX) (star_cons hn), ?_⟩
  refine ha.go I hm kx kb fun d e1 va Z1 H1 F1 _ q1 I1 r1 s1 => ?_
  refine hl.go I1 q1 (kx.step s1) kb fun ds e2 vs Z2 H2 F2 _ q2 I2 r2 s2 => ?_
  exact k _ _ q2 _ Z2 H2 F2 I2 (.cons (r1.mono s2.zz) r2) (s1.trans0 s2)
theorem so_nil : SO S [] (fun env => .ok [] env) := fun σ env Z H F I Q k _ _ => ⟨tNil, fun X hX => pa_nil, k _ _ rfl [] Z H F [] I .nil .refl⟩
def consO (ma : M OV) (ml : M (List OV)) : M (List OV) := fun env => (ma env).bind fun d e1 => (ml e1).bind fun ds e2 => .ok (d :: ds) e2
theorem so_cons {ma : M OV} {ml : M (List OV)} (ha : SV S a ma) (hl : SO S es ml) (hn : notStar a = true) : SO S (a :: es) (consO ma ml) := .of fun σ env Z H F I Q mm hm k kx kb => by
  refine ⟨tCons (wE S a) (wA S es), fun X hX => pa_cons (pe_w hX) (pa_w hX) (star_cons hn), ?_⟩
  refine ha.go I hm kx kb fun d e1 va Z1 H1 F1 G1 _ q1 I1 r1 s1 => ?_
  refine hl.go I1 q1 (kx.step s1.drop) kb fun ds e2 vs Z2 H2 F2 G2 _ q2 I2 r2 s2 => ?_
  have r1' := s2.keep r1 s1.gd
  have dj : ∀ b, b ∈ G1 → b ∉ G2 := fun b hb hc => by
    rcases s2.gr b (.inl hc) with ⟨i, z⟩ | z
    · exact s1.gd i b hb z
    · exact (r1.nn b hb).2 z
  exact k _ _ q2 _ Z2 H2 F2 _ I2 (.cons r1' r2 dj) (s1.trans s2 fun b hb => (r1.nn b hb).2)
/-- (a, b, ..) -/
def tupM (ml : M (List PyData)) : M PyData := fun env => (ml env).bind fun ds e1 => if ds.length ≤ sizeLine then .ok (.tuple ds) e1 else .bad
theorem sd_tup {ml : M (List PyData)} {x1 : Nat} (hl : SL S es ml) : SD S (.Tuple es x1 pos) (tupM ml) := .of fun σ env Z H F I Q mm hm k kx kb => by
  refine ⟨tTup (wA S es), fun X hX => pe_tup (pa_w hX), ?_⟩
  refine hl.go I hm kx kb fun ds e1 vs Z1 H1 F1 _ q1 I1 r1 s1 => ?_
  by_cases hz : ds.length ≤ sizeLine
  · rw [if_pos hz] at q1
    have hv : vs.length ≤ sizeLine := by rw [r1.length]; exact hz
    refine ⟨hv, fun p hp => ?_⟩
    obtain ⟨I', o', s'⟩ := I1.newT hp r1 hv
    exact k _ _ q1 _ _ _ F1 I' o' (s1.trans0 s')
  · rw [if_neg hz] at q1
    exact absurd q1 kb
/-- [a, b, ..] -/
def lstM (ml : M (List OV)) : M OV := fun env => (ml env).bind fun ds e1 => if ds.length ≤ sizeLine then .ok (.ol ds) e1 else .bad
theorem sv_lst {ml : M (List OV)} (hl : SO S es ml) : SV S (.List es pos) (lstM ml) := .of fun σ env Z H F I Q mm hm k kx kb => by
  refine ⟨tLst (wA S es), fun X hX => pe_lst (pa_w hX), ?_⟩
  refine hl.go I hm kx kb fun ds e1 vs Z1 H1 F1 G1 _ q1 I1 r1 s1 => ?_
  by_cases hz : ds.length ≤ sizeLine
  · rw [if_pos hz] at q1
    have hv : vs.length ≤ sizeLine := by rw [r1.length]; exact hz
    refine ⟨hv, fun p hp => ?_⟩
    obtain ⟨s', I', hzp⟩ := I1.freshO (o := .lst vs) hp
    have np : p ∉ G1 := fun z => (r1.nn p z).2 hp
    have r1' := s'.keeps r1 s1.gd
    refine k _ _ q1 _ _ _ F1 (p :: G1) I' (.ol hzp upd_same hv r1' np) ?_
    refine (s1.trans s' fun b hb => (r1.nn b hb).2).less fun b hb => ?_
    rcases List.mem_cons.mp hb with z | z
    · exact List.mem_append_right _ (by rw [z]; exact List.mem_cons_self)
    · exact List.mem_append_left _ z
  · rw [if_neg hz] at q1
    exact absurd q1 kb

/-! ### subscripts -/
def ixD : PyData → PyData → Option PyData
  | .list xs, .int i => atI xs i
  | .tuple xs, .int i => atI xs i
  | .str x, .int i => (atI x.cps.toList i).map fun c => .str ⟨#[c]⟩
  | _, _ => none
theorem atI_rps {H : Hp} {vs : List V} {ds : List PyData} {i : Int} {d : PyData} (r : Rps H vs ds) (h : atI ds i = some d) : ∃ v, atI vs i = some v ∧ Rp H v d := by
  unfold atI at h ⊢
  rw [r.length]
  cases q : ixN ds.length i with
  | none => rw [q] at h; cases h
  | some j =>
    rw [q] at h
    exact r.get h
theorem atI_mem {α : Type} {xs : List α} {i : Int} {x : α} (h : atI xs i = some x) : x ∈ xs := by
  unfold atI at h
  cases q : ixN xs.length i with
  | none => rw [q] at h; cases h
  | some j => rw [q] at h; exact List.mem_of_getElem? h
theorem plainIx (h : ∀ l u st p, b ≠ .Slice l u st p) : PlainIx b := fun o i => by
  cases b <;> first | rfl | exact absurd rfl (h _ _ _ _)
def wIx (S : Ctx) : R2 := fun x y H Q => ∃ r : R2, (∀ X, S.has X → IxR X r) ∧ r x y H Q
theorem ix_w {X : Cx} (h : S.has X) : IxR X (wIx S) := fun value slice pins s σ H x y v u Q I rx ry ⟨r, p, q⟩ hs => p X h value slice pins s σ H x y v u Q I rx ry q hs
def ix2 (ma mb : M PyData) : M PyData := fun env => (ma env).bind fun da e1 => (mb e1).bind fun db e2 => match ixD da db with
  | some d => .ok d e2
  | none => .bad
theorem wix_ok {H : Hp} {x y : V} {dx dy d : PyData} {Q : VK} (rx : Rp H x dx) (ry : Rp H y dy) (h : ixD dx dy = some d) (k : ∀ v, Rp H v d → Q v H) : wIx S x y H Q := by
  cases rx with
  | lst h1 l1 r1 =>
    cases ry with
    | int i =>
      obtain ⟨v, e, r⟩ := atI_rps r1 h
      exact ⟨rIxL S.K, fun X hX => by rw [← hX.K]; exact ix_list, _, _, i, v, rfl, rfl, .inl (.inl h1), e, k v r⟩
    | _ => cases h
  | tup h1 l1 r1 =>
    cases ry with
    | int i =>
      obtain ⟨v, e, r⟩ := atI_rps r1 h
      exact ⟨rIxT S.K, fun X hX => by rw [← hX.K]; exact ix_tup, _, _, i, v, rfl, rfl, .inl (.inl h1), e, k v r⟩
    | _ => cases h
  | str z hz =>
    cases ry with
    | int i =>
      have h : (atI z.cps.toList i).map (fun c => PyData.str ⟨#[c]⟩) = some d := h
      cases q : atI z.cps.toList i with
      | none => rw [q] at h; cases h
      | some c =>
        rw [q] at h
        cases h
        refine ⟨rIxS, fun X hX => ix_str, z, i, c, rfl, rfl, hz.1, q, k _ (.str _ (.of (l := [c]) (by show 1 ≤ sizeLine; decide) fun c' hc => ?_))⟩
        have e : c' = c := by simpa using hc
        subst e
        exact hz.mem _ (atI_mem q)
    | _ => cases h
  | _ => cases ry <;> cases h
theorem sd_ix (ha : SD S a ma) (hb : SD S b mb) (hs : ∀ l u st p, b ≠ .Slice l u st p) : SD S (.Subscript a b pos) (ix2 ma mb) := .of fun σ env Z H F I Q mm hm k kx kb => by
  refine ⟨tOp (wIx S) (wE S a) (wE S b), fun X hX => pe_ix (ix_w hX) (pe_w hX) (pe_w hX) (plainIx hs), ?_⟩
  refine ha.go I hm kx kb fun da e1 va Z1 H1 F1 _ q1 I1 r1 s1 => ?_
  refine hb.go I1 q1 (kx.step s1) kb fun db e2 vb Z2 H2 F2 _ q2 I2 r2 s2 => ?_
  cases hr : ixD da db with
  | none => rw [hr] at q2; exact absurd q2 kb
  | some d =>
    rw [hr] at q2
    -- the item lies in Z2, too
    have g : ∀ (Zf : Hp), Ex Zf H2 → Rp Zf va da → Rp Zf vb db → wIx S va vb H2 Q ∨ True := fun _ _ _ _ => .inr trivial
    have ra := r1.mono s2.zz
    have key : ∀ v, Rp H2 v d → (∃ v', v' = v ∧ Rp Z2 v' d) → Q v H2 := fun v _ ⟨v', e, r⟩ => by
      subst e
      exact k _ _ q2 _ Z2 H2 F2 I2 r (s1.trans0 s2)
    -- by kinds
    cases ra with
    | lst h1 l1 rr =>
      cases r2 with
      | int i =>
        obtain ⟨v, e, r⟩ := atI_rps rr hr
        exact ⟨rIxL S.K, fun X hX => by rw [← hX.K]; exact ix_list, _, _, i, v, rfl, rfl, .inl (.inl (I2.sub _ _ h1)), e, k _ _ q2 _ Z2 H2 F2 I2 r (s1.trans0 s2)⟩
      | _ => cases hr
    | tup h1 l1 rr =>
      cases r2 with
      | int i =>
        obtain ⟨v, e, r⟩ := atI_rps rr hr
        exact ⟨rIxT S.K, fun X hX => by rw [← hX.K]; exact ix_tup, _, _, i, v, rfl, rfl, .inl (.inl (I2.sub _ _ h1)), e, k _ _ q2 _ Z2 H2 F2 I2 r (s1.trans0 s2)⟩
      | _ => cases hr
    | str z hz =>
      refine wix_ok (S := S) (.str z hz) (I2.at r2) hr fun v r => ?_
      have hd : ∃ c, d = .str ⟨#[c]⟩ := by
        cases r2 with
        | int i =>
          have h : (atI z.cps.toList i).map (fun c => PyData.str ⟨#[c]⟩) = some d := hr
          cases q : atI z.cps.toList i with
          | none => rw [q] at h; cases h
          | some c => rw [q] at h; cases h; exact ⟨c, rfl⟩
        | _ => cases hr
      obtain ⟨c, rfl⟩ := hd
      cases r with
      | str _ hg => exact k _ _ q2 _ Z2 H2 F2 I2 (.str _ hg) (s1.trans0 s2)
    | _ => cases r2 <;> cases hr

/-! ### slices -/
def cutL {α : Type} (xs : List α) (lo hi : Option Int) : List α := (xs.drop (HT.sIx xs.length 0 lo)).take (HT.sIx xs.length xs.length hi - HT.sIx xs.length 0 lo)
def slcD : PyData → Option Int → Option Int → Option OV
  | .list xs, lo, hi => some (.ol ((cutL xs lo hi).map .fz))
  | .str x, lo, hi => some (.fz (.str ⟨(cutL x.cps.toList lo hi).toArray⟩))
  | .tuple xs, lo, hi => if HT.sIx xs.length 0 lo = 0 ∧ HT.sIx xs.length xs.length hi = xs.length then none else some (.fz (.tuple (cutL xs lo hi)))
  | _, _, _ => none
theorem cutL_len {α : Type} (xs : List α) (lo hi : Option Int) : (cutL xs lo hi).length ≤ xs.length := by
  unfold cutL
  rw [List.length_take, List.length_drop]
  omega
theorem cutL_mem {α : Type} {xs : List α} {lo hi : Option Int} {x : α} (h : x ∈ cutL xs lo hi) : x ∈ xs := List.mem_of_mem_drop (List.mem_of_mem_take h)
theorem Rps.cut {H : Hp} {vs : List V} {ds : List PyData} (r : Rps H vs ds) (lo hi : Option Int) : Rps H (cutV vs lo hi) (cutL ds lo hi) := by
  unfold cutV cutL
  rw [r.length]
  exact (r.drop _).take _
/-- an optional part of a slice -/
abbrev MO := M (Option Int)
def SP' (S : Ctx) (oe : Option Expr) (m : MO) : Prop := ∀ (σ : St) (env : Env) (Z H : Hp) (F : Fp), SI S.K Z H σ env F → ∀ Q : Option Int → Hp → Prop,
  (∀ o env', m env = .ok o env' → ∀ Z' H' F', SI S.K Z' H' σ env' F' → Stp Z H F Z' H' F' [] → Q o H') →
  KX S σ Z H F (m env) → m env ≠ .bad → ∃ t : TO, (∀ X, S.has X → PO X oe t) ∧ t σ H Q
def wO (S : Ctx) (oe : Option Expr) : TO := fun σ H Q => ∃ t : TO, (∀ X, S.has X → PO X oe t) ∧ t σ H Q
theorem po_w {oe : Option Expr} {X : Cx} (h : S.has X) : PO X oe (wO S oe) := ⟨fun pins s σ H Q I ⟨t, p, q⟩ => (p X h).run pins s σ H Q I q⟩
theorem sp_none : SP' S none (fun env => .ok none env) := fun σ env Z H F I Q k kx kb => ⟨tNoPart, fun X hX => po_none, k _ _ rfl Z H F I .refl⟩
def partM (ma : M PyData) : MO := fun env => (ma env).bind fun d e1 => match d with
  | .int i => .ok (some i) e1
  | _ => .bad
theorem sp_some (ha : SD S a ma) : SP' S (some a) (partM ma) := fun σ env Z H F I Q k kx kb => by
  refine ⟨tPart (wE S a), fun X hX => po_some (pe_w hX), ?_⟩
  obtain ⟨mm, hm⟩ : ∃ mm, mm = partM ma env := ⟨_, rfl⟩
  rw [← hm] at kx kb
  refine ha.go I hm kx kb fun d e1 va Z1 H1 F1 _ q1 I1 r1 s1 => ?_
  cases r1 with
  | int i => exact ⟨i, rfl, k _ _ (hm.symm.trans q1) Z1 H1 F1 I1 s1⟩
  | _ => exact absurd q1 kb
theorem SP'.go {oe : Option Expr} {m : MO} (h : SP' S oe m) {σ : St} {env : Env} {Z H : Hp} {F : Fp} {β : Type} (I : SI S.K Z H σ env F) {mm : Rs β} {kk : Option Int → Env → Rs β} (hm : mm = (m env).bind kk) (kx : KX S σ Z H F mm) (kb : mm ≠ .bad) {Q : Option Int → Hp → Prop}
    (k : ∀ d env1 Z1 H1 F1, m env = .ok d env1 → mm = kk d env1 → SI S.K Z1 H1 σ env1 F1 → Stp Z H F Z1 H1 F1 [] → Q d H1) : wO S oe σ H Q :=
  h σ env Z H F I Q (fun r env1 e Z1 H1 F1 I1 s1 => k r env1 Z1 H1 F1 e (by rw [hm, e]; rfl) I1 s1) (kx.bind hm) (bind_nb hm kb)
def wSl (S : Ctx) : V → Option Int → Option Int → Hp → VK → Prop := fun x lo hi H Q => ∃ r : V → Option Int → Option Int → Hp → VK → Prop, (∀ X, S.has X → SlR X r) ∧ r x lo hi H Q
theorem slr_w {X : Cx} (h : S.has X) : SlR X (wSl S) := fun pins s σ H x v vl vu lo hi sl Q I rx hs pl pu ⟨r, p, q⟩ => p X h pins s σ H x v vl vu lo hi sl Q I rx hs pl pu q
def slc3 (ma : M PyData) (ml mh : MO) : M OV := fun env => (ma env).bind fun da e1 => (ml e1).bind fun lo e2 => (mh e2).bind fun hi e3 => Rs.o (slcD da lo hi) e3
theorem StrG.cut {x : Str} (h : StrG x) (lo hi : Option Int) : StrG ⟨(cutL x.cps.toList lo hi).toArray⟩ := by
  refine .of ?_ fun c hc => h.mem c (cutL_mem hc)
  exact Nat.le_trans (cutL_len _ _ _) (by rw [Array.length_toList]; exact h.1)
theorem sv_slice {lo hi : Option Expr} {ml mh : MO} {p2 : Pos} (ha : SD S a ma) (hl : SP' S lo ml) (hh : SP' S hi mh) : SV S (.Subscript a (.Slice lo hi none p2) pos) (slc3 ma ml mh) := .of fun σ env Z H F I Q mm hm k kx kb => by
  refine ⟨tSl (wSl S) (wE S a) (wO S lo) (wO S hi), fun X hX => pe_slice (slr_w hX) (pe_w hX) (po_w hX) (po_w hX), ?_⟩
  refine ha.go I hm kx kb fun da e1 va Z1 H1 F1 _ q1 I1 r1 s1 => ?_
  refine hl.go I1 q1 (kx.step s1) kb fun lo e2 Z2 H2 F2 _ q2 I2 s2 => ?_
  refine hh.go I2 q2 ((kx.step s1).step s2) kb fun hi e3 Z3 H3 F3 _ q3 I3 s3 => ?_
  rw [q3] at kb
  obtain ⟨r, hr⟩ := ro_nb kb
  have ra := (r1.mono s2.zz).mono s3.zz
  have st := (s1.trans0 s2).trans0 s3
  have fin : ∀ v Z' H' G, SI S.K Z' H' σ e3 F3 → OR S.K Z' H' v r G → Stp Z3 H3 F3 Z' H' F3 G → Q v H' := fun v Z' H' G I' o' s' => k r e3 (by rw [q3, hr]; rfl) v Z' H' F3 G I' o' (st.trans0 s')
  cases ra with
  | @lst p1 vs1 ds1 h1 l1 rr =>
    have e : r = .ol ((cutL ds1 lo hi).map .fz) := (Option.some.inj hr).symm
    refine ⟨rSlL S.K, fun X hX => by rw [← hX.K]; exact sl_list, p1, vs1, rfl, .inl (.inl (I3.sub _ _ h1)), fun p hp => ?_⟩
    obtain ⟨I', o', s'⟩ := I3.newL hp (rr.cut lo hi) (Nat.le_trans (cutV_length _ _ _) l1)
    rw [← e] at o'
    exact fin _ _ _ _ I' o' s'
  | @tup p1 vs1 ds1 h1 l1 rr =>
    have hr : (if HT.sIx ds1.length 0 lo = 0 ∧ HT.sIx ds1.length ds1.length hi = ds1.length then none else some (OV.fz (.tuple (cutL ds1 lo hi)))) = some r := hr
    split at hr
    · cases hr
    · rename_i hn
      have e : r = .fz (.tuple (cutL ds1 lo hi)) := (Option.some.inj hr).symm
      refine ⟨rSlT S.K, fun X hX => by rw [← hX.K]; exact sl_tup, p1, vs1, rfl, .inl (.inl (I3.sub _ _ h1)), by rw [rr.length]; exact hn, fun p hp => ?_⟩
      obtain ⟨I', o', s'⟩ := I3.newT hp (rr.cut lo hi) (Nat.le_trans (cutV_length _ _ _) l1)
      rw [e] at fin
      exact fin _ _ _ _ I' (.fz o') s'
  | str z hz =>
    have e : r = .fz (.str ⟨(cutL z.cps.toList lo hi).toArray⟩) := (Option.some.inj hr).symm
    refine ⟨rSlS, fun X hX => sl_str, z, rfl, hz.1, ?_⟩
    have e2 : cutS z lo hi = ⟨(cutL z.cps.toList lo hi).toArray⟩ := by
      unfold cutS cutL
      rw [show z.length = z.cps.toList.length from (Array.length_toList).symm]
    rw [e2]
    rw [e] at fin
    exact fin _ Z3 H3 [] I3 (.fz (.str _ (hz.cut lo hi))) .refl
  | _ => cases hr
end
end Vi

set_option Elab.async false
set_option linter.all false
set_option maxRecDepth 100000
namespace Vi
open PySem L2

/-! ### what is walked -/
/-- an iterator that gives the data ds, one after another -/
structure Wk (J : It) (Z0 : Hp) (ds : List PyData) : Prop where
  len : ds.length ≤ sizeLine
  ex : ∃ (G : Hp → Prop) (Y : Nat → Hp → V → Hp → Prop), Walk J ds.length G Y ∧ (∀ H, Ex Z0 H → G H) ∧
    ∀ i H x H' d, Y i H x H' → ds[i]? = some d → ∀ Z, Ex Z0 Z → Ex Z H → ∃ Z', Ex Z Z' ∧ Ex Z' H' ∧ Ex H H' ∧ Rp Z' x d ∧ ∀ b, Z' b ≠ none → Z b ≠ none ∨ H b = none
def wI (S : Ctx) (tg it : Expr) : TI := fun σ H R => ∃ wi : TI, (∀ X, S.has X → PI X tg it wi) ∧ wi σ H R
theorem pi_w {S : Ctx} {tg it : Expr} {X : Cx} (h : S.has X) : PI X tg it (wI S tg it) := ⟨fun pins s σ H R I ⟨t, p, q⟩ => (p X h).run pins s σ H R I q⟩
/-- what an iterable gives -/
def SIt (S : Ctx) (tg it : Expr) (m : M (List PyData)) : Prop := ∀ (σ : St) (env : Env) (Z H : Hp) (F : Fp), SI S.K Z H σ env F → ∀ R : It → Hp → Prop,
  (∀ ds env', m env = .ok ds env' → ∀ J Z' H' F', SI S.K Z' H' σ env' F' → Wk J Z' ds → Stp Z H F Z' H' F' [] → R J H') →
  KX S σ Z H F (m env) → m env ≠ .bad → wI S tg it σ H R
section
variable {S : Ctx} {a b c e tg : Expr} {es : List Expr} {ma mb mc : M PyData} {pos : Pos}
theorem SIt.go {m : M (List PyData)} (h : SIt S tg e m) {σ : St} {env : Env} {Z H : Hp} {F : Fp} {β : Type} (I : SI S.K Z H σ env F) {mm : Rs β} {kk : List PyData → Env → Rs β} (hm : mm = (m env).bind kk) (kx : KX S σ Z H F mm) (kb : mm ≠ .bad) {R : It → Hp → Prop}
    (k : ∀ ds env1 J Z1 H1 F1, m env = .ok ds env1 → mm = kk ds env1 → SI S.K Z1 H1 σ env1 F1 → Wk J Z1 ds → Stp Z H F Z1 H1 F1 [] → R J H1) : wI S tg e σ H R :=
  h σ env Z H F I R (fun r env1 e J Z1 H1 F1 I1 r1 s1 => k r env1 J Z1 H1 F1 e (by rw [hm, e]; rfl) I1 r1 s1) (kx.bind hm) (bind_nb hm kb)
def signs (x : Str) : List PyData := x.cps.toList.map fun c => .str ⟨#[c]⟩
def itD : PyData → Option (List PyData)
  | .list ds => some ds
  | .tuple ds => some ds
  | .str x => some (signs x)
  | _ => none
def itM (ma : M PyData) : M (List PyData) := fun env => (ma env).bind fun d e1 => match itD d with
  | some ds => .ok ds e1
  | none => .bad
theorem wk_seq {J : It} {K : PySem.W.Frag} {G : Hp → Prop} {Z0 : Hp} {vs : List V} {ds : List PyData} (w : Walk J vs.length G (YAt vs)) (hG : ∀ H, Ex Z0 H → G H) (r : Rps Z0 vs ds) (hl : vs.length ≤ sizeLine) : Wk J Z0 ds := by
  refine ⟨by rw [← r.length]; exact hl, G, YAt vs, by rw [← r.length]; exact w, hG, fun i H x H' d y hd Z e1 e2 => ?_⟩
  obtain ⟨rfl, hx⟩ := y
  obtain ⟨v, hv, rv⟩ := r.get hd
  rw [hx] at hv
  cases hv
  exact ⟨Z, Same.refl _, e2, Same.refl _, rv.mono e1, fun b h => .inl h⟩
theorem wk_str {x : Str} {Z0 : Hp} (hx : StrG x) : Wk (Its x) Z0 (signs x) := by
  have hl : (signs x).length = x.cps.size := by unfold signs; rw [List.length_map, Array.length_toList]
  refine ⟨by rw [hl]; exact hx.1, fun _ => True, _, by rw [hl]; exact walk_str, fun _ _ => trivial, fun i H v H' d y hd Z e1 e2 => ?_⟩
  obtain ⟨rfl, c, hc, rfl⟩ := y
  have e : d = .str ⟨#[c]⟩ := by
    unfold signs at hd
    rw [List.getElem?_map, Array.getElem?_toList, hc] at hd
    exact (Option.some.inj hd).symm
  subst e
  refine ⟨Z, Same.refl _, e2, Same.refl _, .str _ (.of (l := [c]) (by show 1 ≤ sizeLine; decide) fun c' hc' => ?_), fun b h => .inl h⟩
  have e : c' = c := by simpa using hc'
  subst e
  exact hx.mem _ (Array.mem_toList_iff.mpr (Array.mem_of_getElem? hc))
theorem si_e (ha : SD S a ma) : SIt S tg a (itM ma) := fun σ env Z H F I R k kx kb => by
  obtain ⟨mm, hm⟩ : ∃ mm, mm = itM ma env := ⟨_, rfl⟩
  rw [← hm] at kx kb
  cases q : ma env with
  | bad => exact absurd (by rw [hm]; unfold itM; rw [q]; rfl) kb
  | ex x e => exact ⟨iList S.K (wE S a), fun X hX => by rw [← hX.K]; exact pi_list (pe_w hX), ha.go I hm kx kb fun d e1 va Z1 H1 F1 q0 => by rw [q] at q0; cases q0⟩
  | ok d e1 =>
    have hd : ∃ ds, itD d = some ds ∧ mm = .ok ds e1 := by
      have z : mm = (match itD d with | some ds => Rs.ok ds e1 | none => .bad) := by rw [hm]; unfold itM; rw [q]; rfl
      cases qd : itD d with
      | none => rw [qd] at z; exact absurd z kb
      | some ds => rw [qd] at z; exact ⟨ds, rfl, z⟩
    obtain ⟨ds, hd, hmm⟩ := hd
    cases d with
    | list xs =>
      refine ⟨iList S.K (wE S a), fun X hX => by rw [← hX.K]; exact pi_list (pe_w hX), ha.go I hm kx kb fun d' e1' va Z1 H1 F1 q0 q1 I1 r1 s1 => ?_⟩
      rw [q] at q0; cases q0; cases hd
      cases r1 with
      | @lst p vs _ h1 l1 rr => exact ⟨p, rfl, ⟨vs, .inl (.inl (I1.sub _ _ h1))⟩, k _ _ (hm.symm.trans hmm) _ Z1 H1 F1 I1 (wk_seq (K := S.K) walk_list (fun H e => .inl (.inl (e _ _ h1))) rr l1) s1⟩
    | tuple xs =>
      refine ⟨iTup S.K (wE S a), fun X hX => by rw [← hX.K]; exact pi_tup (pe_w hX), ha.go I hm kx kb fun d' e1' va Z1 H1 F1 q0 q1 I1 r1 s1 => ?_⟩
      rw [q] at q0; cases q0; cases hd
      cases r1 with
      | @tup p vs _ h1 l1 rr => exact ⟨p, rfl, ⟨vs, .inl (.inl (I1.sub _ _ h1))⟩, k _ _ (hm.symm.trans hmm) _ Z1 H1 F1 I1 (wk_seq (K := S.K) walk_tup (fun H e => .inl (.inl (e _ _ h1))) rr l1) s1⟩
    | str x =>
      refine ⟨iStr (wE S a), fun X hX => pi_str (pe_w hX), ha.go I hm kx kb fun d' e1' va Z1 H1 F1 q0 q1 I1 r1 s1 => ?_⟩
      rw [q] at q0; cases q0; cases hd
      cases r1 with
      | str _ hx => exact ⟨x, rfl, k _ _ (hm.symm.trans hmm) _ Z1 H1 F1 I1 (wk_str hx) s1⟩
    | _ => cases hd
/-! ranges -/
def rngL (lo hi : Int) : List PyData := (List.range (hi - lo).toNat).map fun (i : Nat) => .int (lo + (i : Int))
def rngD : List PyData → Option (List PyData)
  | [.int hi] => if hi ≤ 16777216 ∧ -(2 ^ 62) ≤ hi then some (rngL 0 hi) else none
  | [.int lo, .int hi] => if (-(2 ^ 61) ≤ lo ∧ lo < 2 ^ 61) ∧ (-(2 ^ 61) ≤ hi ∧ hi < 2 ^ 61) ∧ hi - lo ≤ 16777216 then some (rngL lo hi) else none
  | _ => none
def rngM (ml : M (List PyData)) : M (List PyData) := fun env => (ml env).bind fun ds e1 => match rngD ds with
  | some xs => .ok xs e1
  | none => .bad
theorem wk_rng {lo hi : Int} {Z0 : Hp} (h : hi - lo ≤ 16777216) : Wk (Itr lo (hi - lo).toNat) Z0 (rngL lo hi) := by
  have hl : (rngL lo hi).length = (hi - lo).toNat := by unfold rngL; rw [List.length_map, List.length_range]
  refine ⟨by rw [hl, sizeLine_eq]; omega, fun _ => True, _, by rw [hl]; exact walk_range, fun _ _ => trivial, fun i H v H' d y hd Z e1 e2 => ?_⟩
  obtain ⟨rfl, rfl⟩ := y
  have e : d = .int (lo + (i : Int)) := by
    unfold rngL at hd
    rw [List.getElem?_map] at hd
    cases q : (List.range (hi - lo).toNat)[i]? with
    | none => rw [q] at hd; cases hd
    | some j =>
      rw [q] at hd
      obtain ⟨h1, h2⟩ := List.getElem?_eq_some_iff.mp q
      rw [List.getElem_range] at h2
      subst h2
      exact (Option.some.inj hd).symm
  subst e
  exact ⟨Z, Same.refl _, e2, Same.refl _, .int _, fun b h => .inl h⟩
theorem rngD1 {d : PyData} {xs : List PyData} (h : rngD [d] = some xs) : ∃ hi, d = .int hi ∧ xs = rngL 0 hi ∧ hi ≤ 16777216 ∧ -(2 ^ 62) ≤ hi := by
  cases d with
  | int hi =>
    simp only [rngD] at h
    split at h
    · rename_i z; exact ⟨hi, rfl, (Option.some.inj h).symm, z.1, z.2⟩
    · cases h
  | _ => cases h
theorem rngD2 {d d' : PyData} {xs : List PyData} (h : rngD [d, d'] = some xs) : ∃ lo hi, d = .int lo ∧ d' = .int hi ∧ xs = rngL lo hi ∧ (-(2 ^ 61) ≤ lo ∧ lo < 2 ^ 61) ∧ (-(2 ^ 61) ≤ hi ∧ hi < 2 ^ 61) ∧ hi - lo ≤ 16777216 := by
  cases d with
  | int lo =>
    cases d' with
    | int hi =>
      simp only [rngD] at h
      split at h
      · rename_i z; exact ⟨lo, hi, rfl, rfl, (Option.some.inj h).symm, z⟩
      · cases h
    | _ => cases h
  | _ => cases d' <;> cases h
theorem Rps.one {H : Hp} {vs : List V} {d : PyData} (r : Rps H vs [d]) : ∃ v, vs = [v] ∧ Rp H v d := by
  cases r with
  | cons h r => cases r; exact ⟨_, rfl, h⟩
theorem Rps.two {H : Hp} {vs : List V} {d d' : PyData} (r : Rps H vs [d, d']) : ∃ v v', vs = [v, v'] ∧ Rp H v d ∧ Rp H v' d' := by
  cases r with
  | cons h r =>
    obtain ⟨v', rfl, h'⟩ := r.one
    exact ⟨_, _, rfl, h, h'⟩
theorem one_of {ma : M PyData} {ds : List PyData} {env e1 : Env} (h : consL ma (fun env => .ok [] env) env = .ok ds e1) : ∃ d, ds = [d] := by
  unfold consL at h
  cases q : ma env with
  | ok d e => rw [q] at h; simp [Rs.bind] at h; exact ⟨d, h.1.symm⟩
  | ex x e => rw [q] at h; cases h
  | bad => rw [q] at h; cases h
theorem two_of {ma mb : M PyData} {ds : List PyData} {env e1 : Env} (h : consL ma (consL mb (fun env => .ok [] env)) env = .ok ds e1) : ∃ d d', ds = [d, d'] := by
  unfold consL at h
  cases q : ma env with
  | ok d e =>
    rw [q] at h
    cases q2 : mb e with
    | ok d' e' => simp [Rs.bind, q2] at h; exact ⟨d, d', h.1.symm⟩
    | ex x e' => simp [Rs.bind, q2] at h
    | bad => simp [Rs.bind, q2] at h
  | ex x e => rw [q] at h; cases h
  | bad => rw [q] at h; cases h
theorem star1 {env : PySem.Env} (h : notStar a = true) : starEach [a] env = [(false, PySem.eval a env)] := star_cons h
theorem star2 {env : PySem.Env} (h : notStar a = true) (h2 : notStar b = true) : starEach [a, b] env = [(false, PySem.eval a env), (false, PySem.eval b env)] := by rw [star_cons h, star_cons h2]; rfl
/-- how a built-in's name is read -/
structure BltName (S : Ctx) (x : Str) : Prop where
  gl : S.scope.names.lookup x = some .globalImplicit
  no : S.mg x = none
theorem BltName.g {x : Str} (n : BltName S x) {X : Cx} (h : S.has X) : Gl X x ∧ X.mg x = none := ⟨by show X.env.scope.names.lookup x = _; rw [h.scope]; exact n.gl, by rw [h.mg]; exact n.no⟩
theorem si_rng1 {p : Pos} (n : BltName S "range") (ha : SD S a ma) (hn : notStar a = true) : SIt S tg (.Call (.Name "range" p) [a] [] pos) (rngM (consL ma (fun env => .ok [] env))) := fun σ env Z H F I R k kx kb => by
  obtain ⟨mm, hm⟩ : ∃ mm, mm = rngM (consL ma (fun env => .ok [] env)) env := ⟨_, rfl⟩
  rw [← hm] at kx kb
  refine ⟨iRng1 (wA S [a]), fun X hX => pi_range1 (n.g hX).1 (n.g hX).2 (pa_w hX) (star1 hn), ?_⟩
  refine (sl_cons ha sl_nil hn).go I hm kx kb fun ds e1 vs Z1 H1 F1 q0 q1 I1 r1 s1 => ?_
  obtain ⟨d, rfl⟩ := one_of q0
  cases qd : rngD [d] with
  | none => rw [qd] at q1; exact absurd q1 kb
  | some xs =>
    rw [qd] at q1
    obtain ⟨hi, rfl, rfl, h1, h2⟩ := rngD1 qd
    obtain ⟨v, rfl, rv⟩ := r1.one
    cases rv
    have e : hi.toNat = (hi - 0).toNat := by rw [Int.sub_zero]
    refine ⟨hi, rfl, h2, by omega, ?_⟩
    rw [e]
    exact k _ _ (hm.symm.trans q1) _ Z1 H1 F1 I1 (wk_rng (by omega)) s1
theorem si_rng2 {p : Pos} (n : BltName S "range") (ha : SD S a ma) (hb : SD S b mb) (hn : notStar a = true) (hn2 : notStar b = true) : SIt S tg (.Call (.Name "range" p) [a, b] [] pos) (rngM (consL ma (consL mb (fun env => .ok [] env)))) := fun σ env Z H F I R k kx kb => by
  obtain ⟨mm, hm⟩ : ∃ mm, mm = rngM (consL ma (consL mb (fun env => .ok [] env))) env := ⟨_, rfl⟩
  rw [← hm] at kx kb
  refine ⟨iRng2 (wA S [a, b]), fun X hX => pi_range2 (n.g hX).1 (n.g hX).2 (pa_w hX) (star2 hn hn2) (star1 hn2), ?_⟩
  refine (sl_cons ha (sl_cons hb sl_nil hn2) hn).go I hm kx kb fun ds e1 vs Z1 H1 F1 q0 q1 I1 r1 s1 => ?_
  obtain ⟨d, d', rfl⟩ := two_of q0
  cases qd : rngD [d, d'] with
  | none => rw [qd] at q1; exact absurd q1 kb
  | some xs =>
    rw [qd] at q1
    obtain ⟨lo, hi, rfl, rfl, rfl, h1, h2, h3⟩ := rngD2 qd
    obtain ⟨v, v', rfl, rv, rv'⟩ := r1.two
    cases rv; cases rv'
    exact ⟨lo, hi, rfl, by omega, k _ _ (hm.symm.trans q1) _ Z1 H1 F1 I1 (wk_rng h3) s1⟩

/-! ### targets -/
/-- a target stores into the slots js -/
def SG (S : Ctx) (tg : Expr) (js : List Nat) (bd : PyData → Env → Option Env) : Prop := ∀ (σ : St) (env env' : Env) (Z H : Hp) (F : Fp) (v : V) (d : PyData), SI S.K Z H σ env F → Rp Z v d → bd d env = some env' →
  ∀ Q : St → Hp → Prop, (∀ σ' F', SI S.K Z H σ' env' F' → Stp Z H F Z H F' [] → (∀ j, j ∉ js → σ'[j]? = σ[j]?) → σ'.length = σ.length → Q σ' H) → wG S tg v σ H Q
structure StoOk (S : Ctx) (i : Nat) (x : Str) : Prop where
  at_ : S.N[i]? = some x
  loc : Loc S.scope x
  fn : S.fn x = true ∨ S.scope.names.lookup x = some .local
  nd : S.N.Nodup
def bdN (i : Nat) : PyData → Env → Option Env := fun d env => if i < env.length then some (env.set i (some (.fz d))) else none
theorem set_stp {Z H : Hp} {F : Fp} {i : Nat} : Stp Z H F Z H (setF F i []) [] := ⟨Same.refl _, fun _ _ h _ => h, fun b h => h.elim (fun z => by cases z) fun ⟨j, z⟩ => by
    by_cases qj : j = i
    · subst qj; rw [setF_same] at z; cases z
    · rw [setF_ne qj] at z; exact .inl ⟨j, z⟩, fun _ h => .inl h, fun _ _ h => by cases h⟩
theorem setF_2 {F : Fp} {i : Nat} {G G' : List Addr} : setF (setF F i G) i G' = setF F i G' := by
  funext j
  by_cases q : j = i
  · subst q; rw [setF_same, setF_same]
  · rw [setF_ne q, setF_ne q, setF_ne q]
theorem SI.store {K : PySem.W.Frag} {Z H : Hp} {σ : St} {env : Env} {F : Fp} {v : V} {x : OV} {G : List Addr} {i : Nat} (I : SI K Z H σ env F) (hi : i < env.length) (r : OR K Z H v x G) (d : ∀ j b, b ∈ G → b ∉ F j) : SI K Z H (σ.set i (some v)) (env.set i (some x)) (setF F i G) :=
  I.put hi r d
theorem sg_name {i : Nat} {x : Str} (n : StoOk S i x) : SG S (.Name x pos) [i] (bdN i) := fun σ env env' Z H F v d I r hb Q k => by
  refine ⟨gName i, fun X hX => pg_name (by rw [hX.N]; exact n.nd) (by rw [hX.N]; exact n.at_) (by rw [hX.scope]; exact n.loc) (by rw [hX.fn, hX.scope]; exact n.fn), ?_⟩
  unfold bdN at hb
  split at hb
  · rename_i hi
    cases hb
    refine k _ _ (I.store hi (.fz r) fun _ _ z => by cases z) set_stp (fun j hj => ?_) (by rw [List.length_set])
    rw [List.getElem?_set_ne]
    intro e; exact hj (by simp [e])
  · cases hb
/-- several targets, one after another -/
def SGs (S : Ctx) (ts : List Expr) (js : List Nat) (bd : List PyData → Env → Option Env) : Prop := ∀ (σ : St) (env env' : Env) (Z H : Hp) (F : Fp) (vs : List V) (ds : List PyData), SI S.K Z H σ env F → Rps Z vs ds → bd ds env = some env' →
  ∀ Q : St → Hp → Prop, (∀ σ' F', SI S.K Z H σ' env' F' → Stp Z H F Z H F' [] → (∀ j, j ∉ js → σ'[j]? = σ[j]?) → σ'.length = σ.length → Q σ' H) → ∃ t : TGs, (∀ X, S.has X → PGs X ts t) ∧ t vs σ H Q
def wGs (S : Ctx) (ts : List Expr) : TGs := fun vs σ H Q => ∃ t : TGs, (∀ X, S.has X → PGs X ts t) ∧ t vs σ H Q
theorem pgs_w {ts : List Expr} {X : Cx} (h : S.has X) : PGs X ts (wGs S ts) := ⟨fun pins s σ H vs us Q I r ⟨t, p, q⟩ => (p X h).run pins s σ H vs us Q I r q⟩
def bdNil : List PyData → Env → Option Env
  | [], env => some env
  | _ :: _, _ => none
def bdCons (b1 : PyData → Env → Option Env) (bs : List PyData → Env → Option Env) : List PyData → Env → Option Env
  | [], _ => none
  | d :: ds, env => (b1 d env).bind fun e1 => bs ds e1
theorem sgs_nil : SGs S [] [] bdNil := fun σ env env' Z H F vs ds I r hb Q k => by
  refine ⟨gNil, fun X hX => pgs_nil, ?_⟩
  cases r with
  | nil => cases hb; exact ⟨rfl, k σ F I .refl (fun _ _ => rfl) rfl⟩
  | cons _ _ => cases hb
theorem aeach_cons {t : Expr} {ts : List Expr} {env : PySem.Env} (h : notStar t = true) : assignEach (t :: ts) env = (false, assign t env) :: assignEach ts env := by
  cases t <;> first | rfl | cases h
theorem sgs_cons {t : Expr} {ts : List Expr} {js ks : List Nat} {b1 : PyData → Env → Option Env} {bs : List PyData → Env → Option Env} (h1 : SG S t js b1) (h2 : SGs S ts ks bs) (hn : notStar t = true) : SGs S (t :: ts) (js ++ ks) (bdCons b1 bs) := fun σ env env' Z H F vs ds I r hb Q k => by
  refine ⟨gCons (wG S t) (wGs S ts), fun X hX => pgs_cons (pg_w hX) (pgs_w hX) (by rw [aeach_cons hn]; rfl), ?_⟩
  cases r with
  | nil => cases hb
  | @cons v d vs ds r rr =>
    have hb : (b1 d env).bind (fun e1 => bs ds e1) = some env' := hb
    cases q : b1 d env with
    | none => rw [q] at hb; cases hb
    | some e1 =>
      rw [q] at hb
      refine ⟨v, vs, rfl, h1 σ env e1 Z H F v d I r q _ fun σ1 F1 I1 s1 k1 l1 => ?_⟩
      exact h2 σ1 e1 env' Z H F1 vs ds I1 rr hb _ fun σ2 F2 I2 s2 k2 l2 => k σ2 F2 I2 (s1.trans0 s2) (fun j hj => (k2 j fun z => hj (List.mem_append_right _ z)).trans (k1 j fun z => hj (List.mem_append_left _ z))) (l2.trans l1)
def bdT (n : Nat) (bs : List PyData → Env → Option Env) : PyData → Env → Option Env
  | .tuple ds, env => if ds.length = n then bs ds env else none
  | .list ds, env => if ds.length = n then bs ds env else none
  | _, _ => none
theorem aeach_len {ts : List Expr} {env : PySem.Env} : (assignEach ts env).length = ts.length := by
  induction ts with
  | nil => rfl
  | cons t ts ih => cases t <;> simp [assignEach, ih]
theorem aeach_nost {ts : List Expr} {env : PySem.Env} (h : ts.all notStar = true) : (assignEach ts env).findIdx? (·.1) = none := by
  induction ts with
  | nil => rfl
  | cons t ts ih =>
    rw [List.all_cons, Bool.and_eq_true] at h
    rw [aeach_cons h.1, List.findIdx?_cons, ih h.2]
    rfl
theorem sg_tup {ts : List Expr} {k0 : Nat} {js : List Nat} {bs : List PyData → Env → Option Env} (h : SGs S ts js bs) (hn : ts.all notStar = true) : SG S (.Tuple ts k0 pos) js (bdT ts.length bs) := fun σ env env' Z H F v d I r hb Q k => by
  cases r with
  | @tup p vs ds h1 l1 rr =>
    have hb : (if ds.length = ts.length then bs ds env else none) = some env' := hb
    split at hb
    · rename_i hl
      refine ⟨gTup S.K ts.length (wGs S ts), fun X hX => by rw [← hX.K]; exact pg_tup hX.calm (pgs_w hX) aeach_len (aeach_nost hn), ?_⟩
      exact ⟨p, vs, rfl, .inl (.inl (I.sub _ _ h1)), by rw [rr.length]; exact hl, h σ env env' Z H F vs ds I rr hb Q k⟩
    · cases hb
  | @lst p vs ds h1 l1 rr =>
    have hb : (if ds.length = ts.length then bs ds env else none) = some env' := hb
    split at hb
    · rename_i hl
      refine ⟨gLst S.K ts.length (wGs S ts), fun X hX => by rw [← hX.K]; exact pg_lst hX.calm (pgs_w hX) aeach_len (aeach_nost hn), ?_⟩
      exact ⟨p, vs, rfl, .inl (.inl (I.sub _ _ h1)), by rw [rr.length]; exact hl, h σ env env' Z H F vs ds I rr hb Q k⟩
    · cases hb
  | _ => cases hb
end
end Vi

set_option Elab.async false
set_option linter.all false
set_option maxRecDepth 100000
namespace Vi
open PySem L2

/-! ### a comprehension's block -/
def Ctx.blk (S : Ctx) (scope : Scope) : Ctx := { S with scope := relS scope S.scope, fn := fun x => scope.names.lookup x == some .cell, W := fun _ _ _ _ => False }
theorem has_blk {S : Ctx} {X : Cx} (h : S.has X) (scope : Scope) (s : Shared) (H : Hp) (C : Addr) (cl : List (Str × Addr)) (fp : List Addr) : (S.blk scope).has (X.blk s H scope (compEnvC scope cl C X.env) fp) where
  prog := h.prog
  w := h.w
  K := h.K
  mg := h.mg
  base := h.base
  N := h.N
  scope := by show relS scope X.env.scope = relS scope S.scope; rw [h.scope]
  fn := rfl
  calm := h.calm
  room := h.room
  own := PassesOwn.never
  takes := takes0
def wipeE (env : Env) : List Nat → Env
  | [] => env
  | v :: vs => (wipeE env vs).set v none
def wipeF (F : Fp) : List Nat → Fp
  | [] => F
  | v :: vs => setF (wipeF F vs) v []
def resE : List Nat → Env → Env → Env
  | [], _, e => e
  | v :: vs, e0, e => (resE vs e0 e).set v (e0[v]?.getD none)
theorem resE_len (e0 : Env) : ∀ (vs : List Nat) (e : Env), (resE vs e0 e).length = e.length
  | [], e => rfl
  | v :: vs, e => by unfold resE; rw [List.length_set, resE_len e0 vs e]
theorem resE_in (e0 : Env) : ∀ (vs : List Nat) (e : Env) (j : Nat), j ∈ vs → j < e.length → (resE vs e0 e)[j]? = some (e0[j]?.getD none)
  | v :: vs, e, j, h, hl => by
    unfold resE
    by_cases q : v = j
    · subst q
      rw [List.getElem?_set_self (by rw [resE_len]; exact hl)]
    · rw [List.getElem?_set_ne q]
      refine resE_in e0 vs e j ?_ hl
      rcases List.mem_cons.mp h with z | z
      · exact absurd z.symm q
      · exact z
theorem resE_out (e0 : Env) : ∀ (vs : List Nat) (e : Env) (j : Nat), j ∉ vs → (resE vs e0 e)[j]? = e[j]?
  | [], e, j, _ => rfl
  | v :: vs, e, j, h => by
    unfold resE
    rw [List.getElem?_set_ne fun q => h (by simp [q])]
    exact resE_out e0 vs e j fun z => h (List.mem_cons_of_mem _ z)
theorem wipeF_in {F : Fp} : ∀ {vs : List Nat} {j : Nat}, j ∈ vs → wipeF F vs j = []
  | v :: vs, j, h => by
    unfold wipeF
    by_cases q : j = v
    · subst q; exact setF_same
    · rw [setF_ne q]
      rcases List.mem_cons.mp h with z | z
      · exact absurd z q
      · exact wipeF_in z
theorem wipeF_out {F : Fp} : ∀ {vs : List Nat} {j : Nat}, j ∉ vs → wipeF F vs j = F j
  | [], j, _ => rfl
  | v :: vs, j, h => by
    unfold wipeF
    rw [setF_ne fun q => h (by simp [q])]
    exact wipeF_out fun z => h (List.mem_cons_of_mem _ z)
theorem wipeF_sub {F : Fp} {vs : List Nat} {j : Nat} {b : Addr} (h : b ∈ wipeF F vs j) : b ∈ F j := by
  by_cases q : j ∈ vs
  · rw [wipeF_in q] at h; cases h
  · rw [wipeF_out q] at h; exact h
section
variable {K : PySem.W.Frag} {Z Z' H H' : Hp} {σ σ' : St} {env env' : Env} {F F' : Fp} {G : List Addr} {vs : List Nat}
theorem SI.wipe (I : SI K Z H σ env F) : ∀ vs : List Nat, SI K Z H (L2.wipe σ vs) (wipeE env vs) (wipeF F vs)
  | [] => I
  | v :: vs => (SI.wipe I vs).wipe1 v
theorem wipe_stp : Stp Z H F Z H (wipeF F vs) [] :=
  ⟨Same.refl _, fun _ _ h _ => h, fun b h => h.elim (fun z => by cases z) fun ⟨j, z⟩ => .inl ⟨j, wipeF_sub z⟩, fun _ h => .inl h, fun _ _ h => by cases h⟩
/-- behind a block: the wiped slots are as ahead of it -/
theorem SI.back {envc : Env} {Fc : Fp} (I : SI K Z H σ env F) (s : Stp Z H (wipeF F vs) Z' H' Fc G) (J : SI K Z' H' (L2.wipe σ vs) envc Fc) (hw : ∀ j, j ∈ vs → ∀ x, envc[j]? ≠ some (some x)) :
    ∃ Fr : Fp, SI K Z' H' σ (resE vs env envc) Fr ∧ (∀ j b, b ∈ Fr j → (j ∈ vs ∧ b ∈ F j) ∨ (j ∉ vs ∧ b ∈ Fc j)) := by
  have hl : envc.length = env.length := by rw [← J.len, wipe_length, I.len]
  refine ⟨fun j => if j ∈ vs then F j else Fc j, ⟨by rw [resE_len, I.len, hl], J.sub, fun j x e => ?_, fun j hj => ?_, fun j k b hjk hb => ?_⟩, fun j b hb => ?_⟩
  · by_cases q : j ∈ vs
    · have hjl : j < envc.length := by
        obtain ⟨h, _⟩ := List.getElem?_eq_some_iff.mp e
        rw [resE_len] at h; exact h
      rw [resE_in env vs envc j q hjl] at e
      have e1 : env[j]? = some (some x) := by
        cases z : env[j]? with
        | none => rw [z] at e; cases e
        | some o => rw [z] at e; exact e
      obtain ⟨v, e2, r⟩ := I.rep j x e1
      refine ⟨v, e2, ?_⟩
      show OR K Z' H' v x (if j ∈ vs then F j else Fc j)
      rw [if_pos q]
      refine s.keep r fun i b hb hc => ?_
      by_cases qi : i = j
      · subst qi; rw [wipeF_in q] at hc; cases hc
      · exact I.dis j i b (Ne.symm qi) hb (wipeF_sub hc)
    · rw [resE_out env vs envc j q] at e
      obtain ⟨v, e2, r⟩ := J.rep j x e
      rw [wipe_out q] at e2
      refine ⟨v, e2, ?_⟩
      show OR K Z' H' v x (if j ∈ vs then F j else Fc j)
      rw [if_neg q]
      exact r
  · show (if j ∈ vs then F j else Fc j) = []
    by_cases q : j ∈ vs
    · rw [if_pos q]
      refine I.non j fun x e => ?_
      have hjl : j < envc.length := by rw [hl]; exact (List.getElem?_eq_some_iff.mp e).1
      refine hj x ?_
      rw [resE_in env vs envc j q hjl, e]; rfl
    · rw [if_neg q]
      refine J.non j fun x e => hj x ?_
      rw [resE_out env vs envc j q]; exact e
  · have hb : b ∈ (if j ∈ vs then F j else Fc j) := hb
    show b ∉ (if k ∈ vs then F k else Fc k)
    have cross : ∀ i j', i ∈ vs → b ∈ F i → b ∉ Fc j' := fun i j' hi h1 h2 => by
      rcases s.gr b (.inr ⟨j', h2⟩) with ⟨m, z⟩ | z
      · by_cases qm : m = i
        · subst qm; rw [wipeF_in hi] at z; cases z
        · exact I.dis i m b (Ne.symm qm) h1 (wipeF_sub z)
      · obtain ⟨_, ws, e⟩ := I.own h1
        rw [e] at z; cases z
    by_cases qj : j ∈ vs
    · rw [if_pos qj] at hb
      by_cases qk : k ∈ vs
      · rw [if_pos qk]; exact I.dis j k b hjk hb
      · rw [if_neg qk]; exact cross j k qj hb
    · rw [if_neg qj] at hb
      by_cases qk : k ∈ vs
      · rw [if_pos qk]; exact fun z => cross k j qk z hb
      · rw [if_neg qk]; exact J.dis j k b hjk hb
  · have hb : b ∈ (if j ∈ vs then F j else Fc j) := hb
    by_cases q : j ∈ vs
    · rw [if_pos q] at hb; exact .inl ⟨q, hb⟩
    · rw [if_neg q] at hb; exact .inr ⟨q, hb⟩
theorem Stp.back {Fc Fr : Fp} (I : SI K Z H σ env F) (s : Stp Z H (wipeF F vs) Z' H' Fc G) (hF : ∀ j b, b ∈ Fr j → (j ∈ vs ∧ b ∈ F j) ∨ (j ∉ vs ∧ b ∈ Fc j)) : Stp Z H F Z' H' Fr G := by
  refine ⟨s.zz, fun b o e hn => s.fr b o e fun i z => hn i (wipeF_sub z), fun b hb => ?_, fun b hb => ?_, fun i b hb hc => ?_⟩
  · have g : (b ∈ G ∨ ∃ i, b ∈ Fc i) → (∃ i, b ∈ F i) ∨ H b = none := fun h => (s.gr b h).imp (fun ⟨i, z⟩ => ⟨i, wipeF_sub z⟩) id
    rcases hb with hb | ⟨i, hb⟩
    · exact g (.inl hb)
    · rcases hF i b hb with ⟨_, z⟩ | ⟨_, z⟩
      · exact .inl ⟨i, z⟩
      · exact g (.inr ⟨i, z⟩)
  · rcases s.gz b hb with z | ⟨i, z⟩ | z
    · exact .inl z
    · exact .inr (.inl ⟨i, wipeF_sub z⟩)
    · exact .inr (.inr z)
  · rcases hF i b hc with ⟨q, z⟩ | ⟨_, z⟩
    · rcases s.gr b (.inl hb) with ⟨m, y⟩ | y
      · by_cases qm : m = i
        · subst qm; rw [wipeF_in q] at y; cases y
        · exact I.dis i m b (Ne.symm qm) z (wipeF_sub y)
      · obtain ⟨_, ws, e⟩ := I.own z
        rw [e] at y; cases y
    · exact s.gd i b hb z
end
theorem wipeE_len (env : Env) : ∀ vs : List Nat, (wipeE env vs).length = env.length
  | [] => rfl
  | v :: vs => by unfold wipeE; rw [List.length_set, wipeE_len env vs]
theorem wipeE_in (env : Env) : ∀ (vs : List Nat) (j : Nat), j ∈ vs → ∀ x, (wipeE env vs)[j]? ≠ some (some x)
  | v :: vs, j, h, x => by
    unfold wipeE
    by_cases q : v = j
    · subst q
      by_cases hl : v < (wipeE env vs).length
      · rw [List.getElem?_set_self hl]; intro z; cases z
      · rw [List.getElem?_eq_none (by rw [List.length_set]; omega)]; intro z; cases z
    · rw [List.getElem?_set_ne q]
      refine wipeE_in env vs j ?_ x
      rcases List.mem_cons.mp h with z | z
      · exact absurd z.symm q
      · exact z
theorem wipe_same {σ σ' : St} {vs : List Nat} (hl : σ'.length = σ.length) (h : ∀ j, j ∉ vs → σ'[j]? = σ[j]?) : wipe σ' vs = wipe σ vs := by
  refine List.ext_getElem? fun j => ?_
  by_cases q : j ∈ vs
  · have w : ∀ (τ : St), j < τ.length → (wipe τ vs)[j]? = some none := fun τ ht => by
      cases z : (wipe τ vs)[j]? with
      | none => exact absurd (List.getElem?_eq_none_iff.mp z) (by rw [wipe_length]; omega)
      | some o =>
        cases o with
        | none => rfl
        | some y => exact absurd q (wipe_some z).2
    by_cases hj : j < σ.length
    · rw [w σ' (by omega), w σ hj]
    · rw [List.getElem?_eq_none (by rw [wipe_length]; omega), List.getElem?_eq_none (by rw [wipe_length]; omega)]
  · rw [wipe_out q, wipe_out q]
    exact h j q

/-! ### the comprehension -/
def compL (bd : PyData → Env → Option Env) (tc : M Bool) (me : M PyData) (vs : List Nat) : List PyData → Env → Rs (List PyData)
  | [], env => .ok [] env
  | d :: ds, env => match bd d env with
    | none => .bad
    | some e1 => match tc e1 with
      | .ok true e2 => (match me e2 with
        | .ok y e3 => (compL bd tc me vs ds (wipeE e3 vs)).bind fun ys e4 => .ok (y :: ys) e4
        | .ex _ _ => .bad
        | .bad => .bad)
      | .ok false e2 => compL bd tc me vs ds (wipeE e2 vs)
      | .ex _ _ => .bad
      | .bad => .bad
def compM (mi : M (List PyData)) (bd : PyData → Env → Option Env) (tc : M Bool) (me : M PyData) (vs : List Nat) : M OV := fun env => (mi env).bind fun ds e1 => match compL bd tc me vs ds (wipeE e1 vs) with
  | .ok ys e2 => .ok (.ol (ys.map .fz)) (resE vs e1 e2)
  | .ex _ _ => .bad
  | .bad => .bad
def wTs (S : Ctx) (ifs : List Expr) : TT := fun σ H Q => ∃ t : TT, (∀ X, S.has X → PTs X ifs t) ∧ t σ H Q
theorem pts_w {S : Ctx} {ifs : List Expr} {X : Cx} (h : S.has X) : PTs X ifs (wTs S ifs) := ⟨fun pins s σ H Q I ⟨t, p, q⟩ => (p X h).run pins s σ H Q I q⟩
def STs (S : Ctx) (ifs : List Expr) (m : M Bool) : Prop := ∀ (σ : St) (env : Env) (Z H : Hp) (F : Fp), SI S.K Z H σ env F → ∀ Q : Bool → Hp → Prop,
  (∀ b env', m env = .ok b env' → ∀ Z' H' F', SI S.K Z' H' σ env' F' → Stp Z H F Z' H' F' [] → Q b H') →
  KX S σ Z H F (m env) → m env ≠ .bad → wTs S ifs σ H Q
section
variable {S : Ctx} {c e elt tg iter : Expr} {ifs : List Expr} {pos : Pos}
theorem sts_nil : STs S [] (fun env => .ok true env) := fun σ env Z H F I Q k _ _ => ⟨tYes, fun X hX => pts_nil, k _ _ rfl Z H F I .refl⟩
theorem sts_one {m : M Bool} (h : SB S c m) : STs S [c] m := fun σ env Z H F I Q k kx kb => ⟨wT S c, fun X hX => pts_one (pt_w hX), h σ env Z H F I Q k kx kb⟩
def notSetE : Expr → Bool
  | .Set _ _ _ => false
  | _ => true
theorem folded {env : PySem.Env} (h : notSetE e = true) : ∀ x, foldedSetIterable e env x = pure x := fun x => by
  cases e <;> first | rfl | cases h
/-- what a turn of the block leaves -/
structure CI (S : Ctx) (Z1 H1 : Hp) (Fw : Fp) (σw : St) (vs : List Nat) (D : Addr) (Z H : Hp) (env : Env) (F : Fp) (ys : List PyData) (n : Nat) : Prop where
  si : SI S.K Z H σw env F
  st : Stp Z1 H1 Fw Z H F [D]
  zd : Z D = none
  ac : ∃ acc, H D = some (.lst acc) ∧ Rps Z acc ys ∧ acc.length ≤ n
  wp : ∀ j, j ∈ vs → ∀ x, env[j]? ≠ some (some x)
theorem lc_read {scope : Scope} {own : List (Str × Nat)} {mi : M (List PyData)} {bd : PyData → Env → Option Env} {tc : M Bool} {me : M PyData} {js : List Nat} (hi : SIt S tg iter mi) (hjs : ∀ j, j ∈ js → j ∈ own.map (·.2))
    (hg : SG (S.blk scope) tg js bd) (ht : STs (S.blk scope) ifs tc) (he : SD (S.blk scope) elt me) {σ : St} {env : Env} {Z H : Hp} {F : Fp} (I : SI S.K Z H σ env F) {Q : VK} {β : Type} {mm : Rs β} {kk : OV → Env → Rs β} (hm : mm = (compM mi bd tc me (own.map (·.2)) env).bind kk)
    (k : ∀ r env', mm = kk r env' → ∀ v Z' H' F' G, SI S.K Z' H' σ env' F' → OR S.K Z' H' v r G → Stp Z H F Z' H' F' G → Q v H') (kx : KX S σ Z H F mm) (kb : mm ≠ .bad) :
    tLc (wI S tg iter) (wG (S.blk scope) tg) (wTs (S.blk scope) ifs) (wE (S.blk scope) elt) (own.map (·.2)) σ H Q := by
  generalize hvs : own.map (·.2) = vs at *
  have hm1 : mm = (mi env).bind fun ds e1 => (match compL bd tc me vs ds (wipeE e1 vs) with | .ok ys e2 => Rs.ok (OV.ol (ys.map .fz)) (resE vs e1 e2) | .ex _ _ => .bad | .bad => .bad).bind kk := by
    rw [hm]; unfold compM; cases mi env <;> rfl
  refine hi.go I hm1 kx kb fun ds e1 J Z1 H1 F1 _ q1 I1 w1 s1 => ?_
  obtain ⟨G, Y, wk, hG, hY⟩ := w1.ex
  intro D hD
  have Iw := I1.wipe vs
  -- what is left to do from turn i on
  refine lc_it wk (fun i Hc => ∃ Zc envc Fc ys, CI S Z1 H1 (wipeF F1 vs) (wipe σ vs) vs D Zc Hc envc Fc ys i ∧
    ∃ zs e2, compL bd tc me vs (ds.drop i) envc = .ok zs e2 ∧ mm = kk (.ol ((ys ++ zs).map .fz)) (resE vs e1 e2)) ?_ ?_ ?_ ?_
  · -- the start
    obtain ⟨s2, I2, hz⟩ := Iw.freshO (o := .lst []) hD
    refine ⟨Z1, wipeE e1 vs, wipeF F1 vs, [], ⟨I2, s2, hz, ⟨[], upd_same, .nil, Nat.zero_le _⟩, wipeE_in e1 vs⟩, ?_⟩
    rw [List.drop_zero]
    cases q : compL bd tc me vs ds (wipeE e1 vs) with
    | ok zs e2 => exact ⟨zs, e2, rfl, by rw [q1, q]; rfl⟩
    | ex x e2 => exact absurd (by rw [q1, q]; rfl) kb
    | bad => exact absurd (by rw [q1, q]; rfl) kb
  · rintro i Hc _ ⟨Zc, envc, Fc, ys, ci, _⟩
    exact hG Hc (ci.st.zz.trans ci.si.sub)
  · -- a turn
    rintro i x Hc H' hi ⟨Zc, envc, Fc, ys, ci, zs, e2, hc, hmm⟩ y
    have hlt : i < ds.length := hi
    obtain ⟨Z', ez, eh, exh, rx, gz⟩ := hY i Hc x H' ds[i] y (List.getElem?_eq_getElem hlt) Zc ci.st.zz ci.si.sub
    obtain ⟨acc, hacc, racc, hal⟩ := ci.ac
    rw [List.drop_eq_getElem_cons hlt] at hc
    -- the item's own objects are new
    have zd' : Z' D = none := by
      cases q : Z' D with
      | none => rfl
      | some o =>
        rcases gz D (by rw [q]; exact fun z => by cases z) with z | z
        · exact absurd ci.zd z
        · rw [hacc] at z; cases z
    have sA : Stp Zc Hc Fc Z' H' Fc [] := ⟨ez, fun b o e _ => exh b o e, fun b h => h.elim (fun z => by cases z) .inl, fun b hb => (gz b hb).imp id .inr, fun _ _ h => by cases h⟩
    have IA : SI S.K Z' H' (wipe σ vs) envc Fc := by
      refine ⟨ci.si.len, eh, fun j u e => ?_, ci.si.non, ci.si.dis⟩
      obtain ⟨v, ev, r⟩ := ci.si.rep j u e
      refine ⟨v, ev, r.mono ez (fun b hb => ?_) fun b hb => ?_⟩
      · obtain ⟨_, ws, q⟩ := r.own b hb
        rw [q]; exact exh b _ q
      · cases q : Z' b with
        | none => rfl
        | some o =>
          obtain ⟨z0, ws, qw⟩ := r.own b hb
          rcases gz b (by rw [q]; exact fun z => by cases z) with z | z
          · exact absurd z0 z
          · rw [qw] at z; cases z
    unfold compL at hc
    cases qb : bd ds[i] envc with
    | none => rw [qb] at hc; cases hc
    | some eb =>
      rw [qb] at hc
      refine hg (wipe σ vs) envc eb Z' H' Fc x ds[i] IA rx qb _ fun σb Fb Ib sb kb' lb => ?_
      have hwb : wipe σb vs = wipe (wipe σ vs) vs := wipe_same lb fun j hj => kb' j fun z => hj (hjs j z)
      have hww : wipe (wipe σ vs) vs = wipe σ vs := wipe_same (wipe_length _ _) fun j hj => wipe_out hj
      refine ⟨hwb.trans hww, ?_⟩
      have kt : KX (S.blk scope) σb Z' H' Fb (tc eb) := fun x' e' q => by
        have hc : (match tc eb with
          | .ok true e2 => (match me e2 with | .ok y e3 => (compL bd tc me vs (ds.drop (i + 1)) (wipeE e3 vs)).bind fun ys e4 => .ok (y :: ys) e4 | .ex _ _ => .bad | .bad => .bad)
          | .ok false e2 => compL bd tc me vs (ds.drop (i + 1)) (wipeE e2 vs)
          | .ex _ _ => .bad
          | .bad => Rs.bad) = .ok zs e2 := hc
        rw [q] at hc; cases hc
      have nt : tc eb ≠ .bad := fun q => by
        have hc : (match tc eb with
          | .ok true e2 => (match me e2 with | .ok y e3 => (compL bd tc me vs (ds.drop (i + 1)) (wipeE e3 vs)).bind fun ys e4 => .ok (y :: ys) e4 | .ex _ _ => .bad | .bad => .bad)
          | .ok false e2 => compL bd tc me vs (ds.drop (i + 1)) (wipeE e2 vs)
          | .ex _ _ => .bad
          | .bad => Rs.bad) = .ok zs e2 := hc
        rw [q] at hc; cases hc
      refine ht σb eb Z' H' Fb Ib _ (fun b et qt Zt Ht Ft It st => ?_) kt nt
      have hc : (match tc eb with
          | .ok true e2 => (match me e2 with | .ok y e3 => (compL bd tc me vs (ds.drop (i + 1)) (wipeE e3 vs)).bind fun ys e4 => .ok (y :: ys) e4 | .ex _ _ => .bad | .bad => .bad)
          | .ok false e2 => compL bd tc me vs (ds.drop (i + 1)) (wipeE e2 vs)
          | .ex _ _ => .bad
          | .bad => Rs.bad) = .ok zs e2 := hc
      rw [qt] at hc
      -- the list so far stands through any step of the turn
      have nD : ∀ j, D ∉ Fc j := fun j z => ci.st.gd j D (by simp) z
      have upTo : ∀ {Zf Hf : Hp} {Ff : Fp}, Stp Zc Hc Fc Zf Hf Ff [] → Hf D = some (.lst acc) ∧ Zf D = none ∧ (∀ j, D ∉ Ff j) := fun {Zf Hf Ff} s => by
        refine ⟨s.fr D _ hacc nD, ?_, fun j z => ?_⟩
        · cases q : Zf D with
          | none => rfl
          | some o =>
            rcases s.gz D (by rw [q]; exact fun z => by cases z) with z | ⟨j, z⟩ | z
            · exact absurd ci.zd z
            · exact absurd z (nD j)
            · rw [hacc] at z; cases z
        · rcases s.gr D (.inr ⟨j, z⟩) with ⟨m, y⟩ | y
          · exact nD m y
          · rw [hacc] at y; cases y
      have wrap : ∀ {Zf Hf : Hp} {Ff : Fp} {ef : Env}, SI S.K Zf Hf σb ef Ff → Stp Zc Hc Fc Zf Hf Ff [] → SI S.K Zf Hf (wipe σ vs) (wipeE ef vs) (wipeF Ff vs) ∧ Stp Zc Hc Fc Zf Hf (wipeF Ff vs) [] := fun {Zf Hf Ff ef} If sf => by
        have J := If.wipe vs
        rw [hwb, hww] at J
        exact ⟨J, sf.trans0 wipe_stp⟩
      have sT : Stp Zc Hc Fc Zt Ht Ft [] := (sA.trans0 sb).trans0 st
      cases b with
      | false =>
        rw [if_neg Bool.false_ne_true]
        obtain ⟨J, sJ⟩ := wrap It sT
        obtain ⟨u1, u2, u3⟩ := upTo sJ
        refine ⟨Zt, _, _, ys, ⟨J, ?_, u2, ⟨acc, u1, racc.mono sJ.zz, Nat.le_succ_of_le hal⟩, wipeE_in et vs⟩, zs, e2, hc, hmm⟩
        have := ci.st.trans sJ fun b hb => by
          have e : b = D := by simpa using hb
          subst e; rw [hacc]; exact fun z => by cases z
        simpa using this
      | true =>
        rw [if_pos rfl]
        have hc : (match me et with | .ok y e3 => (compL bd tc me vs (ds.drop (i + 1)) (wipeE e3 vs)).bind fun ys e4 => .ok (y :: ys) e4 | .ex _ _ => .bad | .bad => Rs.bad) = .ok zs e2 := hc
        have ke : KX (S.blk scope) σb Zt Ht Ft (me et) := fun x' e' q => by rw [q] at hc; cases hc
        have ne : me et ≠ .bad := fun q => by rw [q] at hc; cases hc
        refine he σb et Zt Ht Ft It _ (fun y' e3 qe v3 Z3 H3 F3 I3 r3 s3 => ?_) ke ne
        rw [qe] at hc
        have hc : ((compL bd tc me vs (ds.drop (i + 1)) (wipeE e3 vs)).bind fun ys e4 => Rs.ok (y' :: ys) e4) = .ok zs e2 := hc
        obtain ⟨J, sJ⟩ := wrap I3 (sT.trans0 s3)
        obtain ⟨u1, u2, u3⟩ := upTo sJ
        have hlen : acc.length < sizeLine := Nat.lt_of_le_of_lt hal (Nat.lt_of_lt_of_le hlt w1.len)
        refine ⟨acc, u1, hlen, Z3, wipeE e3 vs, wipeF F3 vs, ys ++ [y'], ⟨?_, ?_, u2, ⟨acc ++ [v3], upd_same, (racc.mono sJ.zz).append (.cons r3 .nil), by rw [List.length_append]; simp; omega⟩, wipeE_in e3 vs⟩, ?_⟩
        · refine ⟨J.len, fun b o e => ?_, fun j u e => ?_, J.non, J.dis⟩
          · rw [upd_ne fun z => by rw [z, u2] at e; cases e]; exact J.sub b o e
          · obtain ⟨v, ev, r⟩ := J.rep j u e
            exact ⟨v, ev, r.mono (Same.refl _) (fun b hb => by rw [upd_ne fun z => u3 j (by rw [← z]; exact hb)]) fun b hb => (r.own b hb).1⟩
        · have t : Stp Z1 H1 (wipeF F1 vs) Z3 H3 (wipeF F3 vs) [D] := by
            have := ci.st.trans sJ fun b hb => by
              have e : b = D := by simpa using hb
              subst e; rw [hacc]; exact fun z => by cases z
            simpa using this
          refine ⟨t.zz, fun b o e hn => ?_, t.gr, t.gz, t.gd⟩
          rw [upd_ne fun z => by rw [z] at e; rw [hD] at e; cases e]
          exact t.fr b o e hn
        · cases q : compL bd tc me vs (ds.drop (i + 1)) (wipeE e3 vs) with
          | ok zs' e4 =>
            rw [q] at hc
            cases hc
            exact ⟨zs', _, rfl, by rw [hmm]; simp⟩
          | ex x' e4 => rw [q] at hc; cases hc
          | bad => rw [q] at hc; cases hc
  · -- the end
    rintro Hc ⟨Zc, envc, Fc, ys, ci, zs, e2, hc, hmm⟩
    rw [List.drop_length] at hc
    cases hc
    obtain ⟨acc, hacc, racc, hal⟩ := ci.ac
    obtain ⟨Fr, Ir, hF⟩ := I1.back ci.st ci.si ci.wp
    have sR := Stp.back I1 ci.st hF
    rw [List.append_nil] at hmm
    exact k _ _ hmm _ Zc Hc Fr [D] Ir (.ol ci.zd hacc (Nat.le_trans hal w1.len) (ors_fz racc) (by simp)) (s1.trans0 sR)
theorem sv_lc {scope : Scope} {own : List (Str × Nat)} {mi : M (List PyData)} {bd : PyData → Env → Option Env} {tc : M Bool} {me : M PyData} {js : List Nat} (hi : SIt S tg iter mi) (hN : S.N.Nodup) (ok : BlkOk S.N S.scope scope own) (hjs : ∀ j, j ∈ js → j ∈ own.map (·.2))
    (hg : SG (S.blk scope) tg js bd) (ht : STs (S.blk scope) ifs tc) (he : SD (S.blk scope) elt me) (hs : notSetE iter = true) : SV S (.ListComp elt [⟨tg, iter, ifs, 0⟩] scope pos) (compM mi bd tc me (own.map (·.2))) := .of fun σ env Z H F I Q mm hm k kx kb =>
  ⟨tLc (wI S tg iter) (wG (S.blk scope) tg) (wTs (S.blk scope) ifs) (wE (S.blk scope) elt) (own.map (·.2)), fun X hX => pe_lc hX.calm (by rw [hX.N]; exact hN) (pi_w hX) (by rw [hX.N, hX.scope]; exact ok)
    (fun s H C cl fp => pg_w (has_blk hX scope s H C cl fp)) (fun s H C cl fp => pts_w (has_blk hX scope s H C cl fp)) (fun s H C cl fp => pe_w (has_blk hX scope s H C cl fp)) (folded hs),
   lc_read hi hjs hg ht he I (hm.trans Rs.bind_idO.symm) k kx kb⟩
end
end Vi

set_option Elab.async false
set_option linter.all false
set_option maxRecDepth 100000
namespace Vi
open PySem L2

/-! ### a state's first slot and the others -/
section
variable {K : PySem.W.Frag} {Z Z' H H' : Hp} {σ : St} {env : Env} {F : Fp} {G : List Addr} {s : Option V} {o : Option OV}
theorem SI.tail (I : SI K Z H (s :: σ) (o :: env) F) : SI K Z H σ env (fun j => F (j + 1)) :=
  ⟨by have := I.len; simpa using this, I.sub, fun i x e => by obtain ⟨v, e1, r⟩ := I.rep (i + 1) x (by simpa using e); exact ⟨v, by simpa using e1, r⟩,
    fun i h => I.non (i + 1) fun x e => h x (by simpa using e), fun i j b hij hb => I.dis (i + 1) (j + 1) b (by omega) hb⟩
def consF (G : List Addr) (F : Fp) : Fp := fun j => match j with
  | 0 => G
  | j + 1 => F j
theorem SI.cons {v : V} {x : OV} (I : SI K Z H σ env F) (r : OR K Z H v x G) (d : ∀ j b, b ∈ G → b ∉ F j) : SI K Z H (some v :: σ) (some x :: env) (consF G F) := by
  refine ⟨by simp [I.len], I.sub, fun i y e => ?_, fun i h => ?_, fun i j b hij hb => ?_⟩
  · cases i with
    | zero =>
      have e : x = y := by simpa using e
      subst e; exact ⟨v, rfl, r⟩
    | succ i =>
      obtain ⟨u, e1, r1⟩ := I.rep i y (by simpa using e)
      exact ⟨u, by simpa using e1, r1⟩
  · cases i with
    | zero => exact absurd rfl (h x)
    | succ i => exact I.non i fun y e => h y (by simpa using e)
  · cases i with
    | zero =>
      cases j with
      | zero => exact absurd rfl hij
      | succ j => exact d j b hb
    | succ i =>
      cases j with
      | zero => exact fun z => d i b z hb
      | succ j => exact I.dis i j b (by omega) hb
theorem SI.consN (I : SI K Z H σ env F) (s : Option V) : SI K Z H (s :: σ) (none :: env) (consF [] F) := by
  refine ⟨by simp [I.len], I.sub, fun i y e => ?_, fun i h => ?_, fun i j b hij hb => ?_⟩
  · cases i with
    | zero => simp at e
    | succ i =>
      obtain ⟨u, e1, r1⟩ := I.rep i y (by simpa using e)
      exact ⟨u, by simpa using e1, r1⟩
  · cases i with
    | zero => rfl
    | succ i => exact I.non i fun y e => h y (by simpa using e)
  · cases i with
    | zero => cases hb
    | succ i =>
      cases j with
      | zero => exact fun z => by cases z
      | succ j => exact I.dis i j b (by omega) hb
theorem SI.nil (sub : Ex Z H) : SI K Z H [] [] (fun _ => []) := ⟨rfl, sub, fun i x e => by simp at e, fun _ _ => rfl, fun _ _ _ _ h => by cases h⟩
theorem set_self {σ : St} {i : Nat} {v : V} (e : σ[i]? = some (some v)) : σ.set i (some v) = σ := by
  obtain ⟨hs, he⟩ := List.getElem?_eq_some_iff.mp e
  rw [← he]; exact List.set_getElem_self hs
end

/-! ### arguments: data, or slots whose owned lists are lent -/
abbrev ArgM := Sum (M PyData) Nat
def argsM : List ArgM → M (List PyData)
  | [], env => .ok [] env
  | .inl m :: r, env => (m env).bind fun d e1 => (argsM r e1).bind fun ds e2 => .ok (d :: ds) e2
  | .inr i :: r, env => match env[i]? with
    | some (some _) => argsM r env
    | _ => .bad
def lent : OV → Bool
  | .fz _ => false
  | _ => true
def asm : List ArgM → List PyData → Env → Option (List OV × Env)
  | [], [], env => some ([], env)
  | .inl _ :: r, d :: ds, env => match asm r ds env with
    | some (os, e) => some (.fz d :: os, e)
    | none => none
  | .inr i :: r, ds, env => match env[i]? with
    | some (some x) => if lent x = true then (match asm r ds (env.set i none) with
      | some (os, e) => some (x :: os, e)
      | none => none) else none
    | _ => none
  | _, _, _ => none
def putB : List ArgM → Env → Env → Env
  | .inl _ :: r, _ :: outs, env => putB r outs env
  | .inr i :: r, o :: outs, env => (putB r outs env).set i o
  | _, _, env => env
def ARel (σ : St) (Z : Hp) : List ArgM → List V → List PyData → Prop
  | [], [], [] => True
  | .inl _ :: r, v :: vs, d :: ds => Rp Z v d ∧ ARel σ Z r vs ds
  | .inr i :: r, v :: vs, ds => σ[i]? = some (some v) ∧ ARel σ Z r vs ds
  | _, _, _ => False
theorem ARel.mono {σ : St} {Z Z' : Hp} (e : Ex Z Z') : ∀ {as : List ArgM} {vs : List V} {ds : List PyData}, ARel σ Z as vs ds → ARel σ Z' as vs ds
  | [], [], [], _ => trivial
  | .inl _ :: _, _ :: _, _ :: _, h => ⟨h.1.mono e, ARel.mono e h.2⟩
  | .inr _ :: r, _ :: vs, ds, h => ⟨h.1, ARel.mono e (as := r) (vs := vs) (ds := ds) h.2⟩
def SAr (S : Ctx) (es : List Expr) (as : List ArgM) : Prop := ∀ (σ : St) (env : Env) (Z H : Hp) (F : Fp), SI S.K Z H σ env F → ∀ Q : List V → Hp → Prop,
  (∀ ds env', argsM as env = .ok ds env' → ∀ vs Z' H' F', SI S.K Z' H' σ env' F' → ARel σ Z' as vs ds → Stp Z H F Z' H' F' [] → Q vs H') →
  KX S σ Z H F (argsM as env) → argsM as env ≠ .bad → wA S es σ H Q
section
variable {S : Ctx} {a b e : Expr} {es : List Expr} {ma mb : M PyData} {as : List ArgM} {pos : Pos}
theorem SAr.go (h : SAr S es as) {σ : St} {env : Env} {Z H : Hp} {F : Fp} {β : Type} (I : SI S.K Z H σ env F) {mm : Rs β} {kk : List PyData → Env → Rs β} (hm : mm = (argsM as env).bind kk) (kx : KX S σ Z H F mm) (kb : mm ≠ .bad) {Q : List V → Hp → Prop}
    (k : ∀ ds env1 vs Z1 H1 F1, argsM as env = .ok ds env1 → mm = kk ds env1 → SI S.K Z1 H1 σ env1 F1 → ARel σ Z1 as vs ds → Stp Z H F Z1 H1 F1 [] → Q vs H1) : wA S es σ H Q :=
  h σ env Z H F I Q (fun r env1 e v Z1 H1 F1 I1 r1 s1 => k r env1 v Z1 H1 F1 e (by rw [hm, e]; rfl) I1 r1 s1) (kx.bind hm) (bind_nb hm kb)
theorem sar_nil : SAr S [] [] := fun σ env Z H F I Q k kx kb => ⟨tNil, fun X hX => pa_nil, k [] env rfl [] Z H F I trivial .refl⟩
theorem sar_e (ha : SD S a ma) (hr : SAr S es as) (hn : notStar a = true) : SAr S (a :: es) (.inl ma :: as) := fun σ env Z H F I Q k kx kb => by
  obtain ⟨mm, hm⟩ : ∃ mm, mm = argsM (.inl ma :: as) env := ⟨_, rfl⟩
  rw [← hm] at kx kb
  refine ⟨tCons (wE S a) (wA S es), fun X hX => pa_cons (pe_w hX) (pa_w hX) (star_cons hn), ?_⟩
  refine ha.go I hm kx kb fun d e1 va Z1 H1 F1 _ q1 I1 r1 s1 => ?_
  refine hr.go I1 q1 (kx.step s1) kb fun ds e2 vs Z2 H2 F2 _ q2 I2 r2 s2 => ?_
  exact k _ _ (hm.symm.trans q2) (va :: vs) Z2 H2 F2 I2 ⟨r1.mono s2.zz, r2⟩ (s1.trans0 s2)
theorem sar_o {i : Nat} {x : Str} {p : Pos} (n : NameOk S i x) (hr : SAr S es as) : SAr S (.Name x p :: es) (.inr i :: as) := fun σ env Z H F I Q k kx kb => by
  obtain ⟨mm, hm⟩ : ∃ mm, mm = argsM (.inr i :: as) env := ⟨_, rfl⟩
  rw [← hm] at kx kb
  refine ⟨tCons (tVar i) (wA S es), fun X hX => pa_cons (n.pe hX) (pa_w hX) (star_cons rfl), ?_⟩
  cases q : env[i]? with
  | none => exact absurd (by rw [hm]; unfold argsM; rw [q]) kb
  | some o =>
    cases o with
    | none => exact absurd (by rw [hm]; unfold argsM; rw [q]) kb
    | some y =>
      obtain ⟨v, ev, _⟩ := I.rep i y q
      refine ⟨v, ev, ?_⟩
      have hm2 : mm = argsM as env := by rw [hm]; conv => lhs; unfold argsM; rw [q]
      refine hr.go I (kk := fun ds e => .ok ds e) (hm2.trans (by cases argsM as env <;> rfl)) kx kb fun ds e2 vs Z2 H2 F2 _ q2 I2 r2 s2 => ?_
      exact k _ _ (hm.symm.trans q2) (v :: vs) Z2 H2 F2 I2 ⟨ev, r2⟩ s2
/-- what is lent is taken out of the slots -/
theorem asm_ok {K : PySem.W.Frag} {Z H : Hp} {σ : St} : ∀ {as : List ArgM} {vs : List V} {ds : List PyData} {env env2 : Env} {F : Fp} {ovs : List OV}, SI K Z H σ env F → ARel σ Z as vs ds → asm as ds env = some (ovs, env2) →
    ∃ Fc F2 : Fp, SI K Z H (vs.map some) (ovs.map some) Fc ∧ SI K Z H σ env2 F2 ∧ (∀ i j b, b ∈ F2 i → b ∉ Fc j) ∧ (∀ j b, b ∈ Fc j → ∃ i, b ∈ F i) ∧ ∀ i b, b ∈ F2 i → b ∈ F i
  | [], [], [], env, env2, F, ovs, I, _, h => by
    cases h
    exact ⟨fun _ => [], F, .nil I.sub, I, fun _ _ _ _ z => (nomatch z), fun _ _ z => (nomatch z), fun _ _ z => z⟩
  | .inl m :: r, v :: vs, d :: ds, env, env2, F, ovs, I, A, h => by
    unfold asm at h
    cases q : asm r ds env with
    | none => rw [q] at h; cases h
    | some p =>
      obtain ⟨os, e⟩ := p
      rw [q] at h
      cases h
      obtain ⟨Fc, F2, Ic, I2, d1, d2, d3⟩ := asm_ok I A.2 q
      refine ⟨consF [] Fc, F2, Ic.cons (.fz A.1) (fun _ _ z => nomatch z), I2, fun i j b hb => ?_, fun j b hb => ?_, d3⟩
      · cases j with
        | zero => exact fun z => nomatch z
        | succ j => exact d1 i j b hb
      · cases j with
        | zero => exact nomatch hb
        | succ j => exact d2 j b hb
  | .inr i :: r, v :: vs, ds, env, env2, F, ovs, I, A, h => by
    unfold asm at h
    cases qe : env[i]? with
    | none => rw [qe] at h; cases h
    | some o =>
      cases o with
      | none => rw [qe] at h; cases h
      | some x =>
        rw [qe] at h
        have h : (if lent x = true then (match asm r ds (env.set i none) with | some (os, e) => some (x :: os, e) | none => none) else none) = some (ovs, env2) := h
        split at h
        · cases q : asm r ds (env.set i none) with
          | none => rw [q] at h; cases h
          | some p =>
            obtain ⟨os, e⟩ := p
            rw [q] at h
            cases h
            obtain ⟨v', ev, rx, dj⟩ := I.take qe
            have e0 : v' = v := by have z := A.1; rw [ev] at z; cases z; rfl
            subst e0
            obtain ⟨Fc, F2, Ic, I2, d1, d2, d3⟩ := asm_ok (I.gone i) A.2 q
            have dd : ∀ j b, b ∈ F i → b ∉ Fc j := fun j b hb hc => by
              obtain ⟨m, z⟩ := d2 j b hc
              exact dj m b hb z
            refine ⟨consF (F i) Fc, F2, Ic.cons rx dd, I2, fun k j b hb => ?_, fun j b hb => ?_, fun k b hb => ?_⟩
            · cases j with
              | zero => exact fun z => dj k b z (d3 k b hb)
              | succ j => exact d1 k j b hb
            · cases j with
              | zero => exact ⟨i, hb⟩
              | succ j =>
                obtain ⟨m, z⟩ := d2 j b hb
                by_cases qm : m = i
                · subst qm; rw [setF_same] at z; exact nomatch z
                · rw [setF_ne qm] at z; exact ⟨m, z⟩
            · have z := d3 k b hb
              by_cases qk : k = i
              · subst qk; rw [setF_same] at z; exact nomatch z
              · rw [setF_ne qk] at z; exact z
        · cases h
/-- what was lent comes back -/
theorem putB_ok {K : PySem.W.Frag} {Z H Z0 : Hp} {σ : St} : ∀ {as : List ArgM} {vs : List V} {ds : List PyData} {outs env2 : Env} {F' F2 : Fp}, SI K Z H (vs.map some) outs F' → SI K Z H σ env2 F2 → ARel σ Z0 as vs ds → (∀ i j b, b ∈ F2 i → b ∉ F' j) →
    ∃ F3 : Fp, SI K Z H σ (putB as outs env2) F3 ∧ ∀ i b, b ∈ F3 i → b ∈ F2 i ∨ ∃ j, b ∈ F' j
  | [], [], [], outs, env2, F', F2, Io, I2, _, _ => by
    unfold putB
    exact ⟨F2, I2, fun i b h => .inl h⟩
  | .inl m :: r, v :: vs, d :: ds, outs, env2, F', F2, Io, I2, A, dd => by
    cases outs with
    | nil => have := Io.len; simp at this
    | cons o outs =>
      obtain ⟨F3, I3, h3⟩ := putB_ok (as := r) (vs := vs) (ds := ds) Io.tail I2 A.2 fun i j b hb => dd i (j + 1) b hb
      exact ⟨F3, I3, fun i b hb => (h3 i b hb).imp id fun ⟨j, z⟩ => ⟨j + 1, z⟩⟩
  | .inr i :: r, v :: vs, ds, outs, env2, F', F2, Io, I2, A, dd => by
    cases outs with
    | nil => have := Io.len; simp at this
    | cons o outs =>
      obtain ⟨F3, I3, h3⟩ := putB_ok (as := r) (vs := vs) (ds := ds) Io.tail I2 A.2 fun i j b hb => dd i (j + 1) b hb
      show ∃ F3, SI K Z H σ ((putB r outs env2).set i o) F3 ∧ _
      cases o with
      | none =>
        refine ⟨setF F3 i [], I3.gone i, fun k b hb => ?_⟩
        by_cases qk : k = i
        · subst qk; rw [setF_same] at hb; exact nomatch hb
        · rw [setF_ne qk] at hb
          exact (h3 k b hb).imp id fun ⟨j, z⟩ => ⟨j + 1, z⟩
      | some x =>
        obtain ⟨v', ev, rx⟩ := Io.rep 0 x rfl
        have e0 : v' = v := by simpa using ev.symm
        subst e0
        have hi : i < (putB r outs env2).length := by rw [← I3.len]; exact (List.getElem?_eq_some_iff.mp A.1).1
        have dj : ∀ j b, b ∈ F' 0 → b ∉ F3 j := fun j b hb hc => by
          rcases h3 j b hc with z | ⟨m, z⟩
          · exact dd j 0 b z hb
          · exact Io.dis 0 (m + 1) b (by omega) hb z
        have J := I3.put hi rx dj
        rw [set_self A.1] at J
        refine ⟨setF F3 i (F' 0), J, fun k b hb => ?_⟩
        by_cases qk : k = i
        · subst qk; rw [setF_same] at hb; exact .inr ⟨0, hb⟩
        · rw [setF_ne qk] at hb
          exact (h3 k b hb).imp id fun ⟨j, z⟩ => ⟨j + 1, z⟩

/-! ### defs -/
abbrev Den := List OV → Rs OV
def spOf (K : PySem.W.Frag) (exr : Exn → Value → Option Addr → Hp → Prop) (np : Nat) (den : Den) : Sp := fun vs H Q E => vs.length = np ∧ ∃ (Z : Hp) (ovs : List OV) (F : Fp), SI K Z H (vs.map some) (ovs.map some) F ∧
  (∀ r outs, den ovs = .ok r outs → ∀ v Z' H' F' G, SI K Z' H' (vs.map some) outs F' → OR K Z' H' v r G → Stp Z H F Z' H' F' G → Q v H') ∧
  (∀ x outs, den ovs = .ex x outs → ∀ Z' H' F' cls d, SI K Z' H' (vs.map some) outs F' → Stp Z H F Z' H' F' [] → exr x cls d H' → E cls d H') ∧ den ovs ≠ .bad
/-- the def x of the module stands and is worth den -/
def FnI (S : Ctx) (x : Str) (np : Nat) (den : Den) : Prop := ∃ (f : Addr) (fd : FuncData) (ps : List Str) (kk : Nat), S.mg x = some (.ref f) ∧ PySem.W.keepIn S.K (.ref f) = true ∧ Binds S.K fd ps [] ∧ ps.length = np ∧ kk ≤ S.k ∧
  FnOk S.P S.w S.K S.mg S.base (L2.CX S.P S.w) kk f fd ps (spOf S.K S.exr np den)
def callD (as : List ArgM) (den : Den) : M OV := fun env => (argsM as env).bind fun ds e1 => match asm as ds e1 with
  | none => .bad
  | some (ovs, e2) => match den ovs with
    | .ok r outs => .ok r (putB as outs e2)
    | .ex x outs => .ex x (putB as outs e2)
    | .bad => .bad
theorem ARel.length {σ : St} {Z : Hp} : ∀ {as : List ArgM} {vs : List V} {ds : List PyData}, ARel σ Z as vs ds → vs.length = as.length
  | [], [], [], _ => rfl
  | .inl _ :: _, _ :: _, _ :: _, h => by rw [List.length_cons, List.length_cons, ARel.length h.2]
  | .inr _ :: r, _ :: vs, ds, h => by rw [List.length_cons, List.length_cons, ARel.length (as := r) (vs := vs) (ds := ds) h.2]
theorem plain_any {env : PySem.Env} (h : es.all notStar = true) : (backTo pos (starEach es env)).any (·.1) = false := by
  induction es with
  | nil => rfl
  | cons t ts ih =>
    rw [List.all_cons, Bool.and_eq_true] at h
    rw [star_cons h.1]
    show (false || (backTo pos (starEach ts env)).any (·.1)) = false
    rw [ih h.2]; rfl
theorem sv_call {x : Str} {den : Den} {p : Pos} (hf : FnI S x as.length den) (hg : S.scope.names.lookup x = some .globalImplicit) (hd : (x == ("__debug__" : Str)) = false) (ha : SAr S (e :: es) as) (hn : (e :: es).all notStar = true) :
    SV S (.Call (.Name x p) (e :: es) [] pos) (callD as den) := .of fun σ env Z H F I Q mm hm k kx kb => by
  obtain ⟨f, fd, ps, kk, hm1, hk1, hb1, hl1, hle, hok⟩ := hf
  rw [List.all_cons, Bool.and_eq_true] at hn
  refine ⟨tCallS (spOf S.K S.exr as.length den) (WE S.W) (wA S (e :: es)), fun X hX => ?_, ?_⟩
  · have hok' : FnOk X.prog X.w X.K X.mg X.base (L2.CX X.prog X.w) kk f fd ps (spOf S.K S.exr as.length den) := by
      rw [hX.prog, hX.w, hX.K, hX.mg, hX.base]; exact hok
    exact pe_callS hok' (hX.room.mono hle) (by show X.env.scope.names.lookup x = _; rw [hX.scope]; exact hg) (by rw [hX.mg]; exact hm1) (by rw [hX.K]; exact hk1) (by rw [hX.K]; exact hb1) (fun σ => passAt hX.takes σ) (pa_w hX) hd (star_cons hn.1) (plain_any hn.2)
  refine ha.go I hm kx kb fun ds e1 vs Z1 H1 F1 _ q1 I1 r1 s1 => ?_
  cases qa : asm as ds e1 with
  | none => rw [qa] at q1; exact absurd q1 kb
  | some p =>
    obtain ⟨ovs, e2⟩ := p
    rw [qa] at q1
    have q1 : mm = (match den ovs with | .ok r outs => .ok r (putB as outs e2) | .ex x outs => .ex x (putB as outs e2) | .bad => .bad) := q1
    obtain ⟨Fc, F2, Ic, I2, d1, d2, d3⟩ := asm_ok I1 r1 qa
    -- behind the call
    have after : ∀ {outs : Env} {Z' H' : Hp} {F' : Fp} {G : List Addr}, SI S.K Z' H' (vs.map some) outs F' → Stp Z1 H1 Fc Z' H' F' G → (∀ b, b ∈ G → Z' b = none ∧ H' b ≠ none) → ∃ F3 : Fp, SI S.K Z' H' σ (putB as outs e2) F3 ∧ Stp Z1 H1 F1 Z' H' F3 G := fun {outs Z' H' F' G} Io so hG => by
      have J2 : SI S.K Z' H' σ e2 F2 := SI.frame so I2 d1 Io.sub
      have dd : ∀ i j b, b ∈ F2 i → b ∉ F' j := fun i j b hb hc => by
        rcases so.gr b (.inr ⟨j, hc⟩) with ⟨m, z⟩ | z
        · exact d1 i m b hb z
        · obtain ⟨_, ws, q⟩ := I2.own hb
          rw [q] at z; cases z
      obtain ⟨F3, I3, h3⟩ := putB_ok (Z0 := Z1) (ds := ds) Io J2 r1 dd
      refine ⟨F3, I3, so.zz, fun b o e hn => so.fr b o e fun j z => ?_, fun b hb => ?_, fun b hb => ?_, fun i b hb hc => ?_⟩
      · obtain ⟨m, y⟩ := d2 j b z
        exact hn m y
      · have lift : ((∃ j, b ∈ Fc j) ∨ H1 b = none) → (∃ i, b ∈ F1 i) ∨ H1 b = none := fun z => z.imp (fun ⟨j, y⟩ => d2 j b y) id
        rcases hb with hb | ⟨i, hb⟩
        · exact lift (so.gr b (.inl hb))
        · rcases h3 i b hb with z | ⟨j, z⟩
          · exact .inl ⟨i, d3 i b z⟩
          · exact lift (so.gr b (.inr ⟨j, z⟩))
      · rcases so.gz b hb with z | ⟨j, z⟩ | z
        · exact .inl z
        · exact .inr (.inl (d2 j b z))
        · exact .inr (.inr z)
      · rcases h3 i b hc with z | ⟨j, z⟩
        · rcases so.gr b (.inl hb) with ⟨m, y⟩ | y
          · exact d1 i m b z y
          · obtain ⟨_, ws, q⟩ := I2.own z
            rw [q] at y; cases y
        · exact so.gd j b hb z
    refine ⟨r1.length, Z1, ovs, Fc, Ic, fun r outs qd v Z' H' F' G Io ro so => ?_, fun x' outs qd Z' H' F' cls d Io so hx => ?_, fun qd => ?_⟩
    · rw [qd] at q1
      obtain ⟨F3, I3, s3⟩ := after Io so ro.nn
      exact k _ _ q1 v Z' H' F3 G I3 ro (s1.trans0 s3)
    · rw [qd] at q1
      obtain ⟨F3, I3, s3⟩ := after Io so (fun _ z => nomatch z)
      exact kx x' _ q1 Z' H' F3 cls d I3 (s1.trans0 s3) hx
    · rw [qd] at q1
      exact kb q1
end
end Vi

set_option Elab.async false
set_option linter.all false
set_option maxRecDepth 100000
namespace Vi
open PySem L2

/-! ### a part that changes nothing, read with what is owned frozen for a while -/
def closedD : PyData → Bool
  | .none => true
  | .bool _ => true
  | .int _ => true
  | .str _ => true
  | _ => false
mutual
def closed : OV → Bool
  | .fz d => closedD d
  | .ol xs => closeds xs
  | .sc _ => false
def closeds : List OV → Bool
  | [] => true
  | x :: xs => closed x && closeds xs
end
section
variable {K : PySem.W.Frag} {Z Z' H H' : Hp}
theorem Rp.closed {v : V} {d : PyData} (r : Rp Z v d) (h : closedD d = true) : Rp Z' v d := by
  cases r with
  | non => exact .non
  | bl b => exact .bl b
  | int i => exact .int i
  | str x g => exact .str x g
  | lst _ _ _ => cases h
  | tup _ _ _ => cases h
mutual
theorem OR.closed (e : ∀ b, Z b = none → Z' b = none) : ∀ {v : V} {x : OV} {F : List Addr}, OR K Z H v x F → Vi.closed x = true → OR K Z' H v x F
  | _, _, _, .fz r, h => .fz (r.closed h)
  | _, _, _, .ol hz ha hl r hn, h => .ol (e _ hz) ha hl (ORs.closed e r h) hn
  | _, _, _, .sc _, h => by cases h
theorem ORs.closed (e : ∀ b, Z b = none → Z' b = none) : ∀ {vs : List V} {xs : List OV} {F : List Addr}, ORs K Z H vs xs F → closeds xs = true → ORs K Z' H vs xs F
  | _, _, _, .nil, _ => .nil
  | _, _, _, .cons r t d, h => by
    unfold closeds at h
    rw [Bool.and_eq_true] at h
    exact .cons (OR.closed e r h.1) (ORs.closed e t h.2) d
end
end
def frzE : List Nat → Env → Env
  | [], env => env
  | i :: vs, env => match env[i]? with
    | some (some (.ol xs)) => (match dsOf xs with
      | some ds => frzE vs (env.set i (some (.fz (.list ds))))
      | none => frzE vs env)
    | _ => frzE vs env
def killE : List Nat → Env → Env
  | [], env => env
  | i :: ks, env => killE ks (env.set i none)
def noOwn : Env → Bool
  | [] => true
  | some (.ol _) :: _ => false
  | _ :: env => noOwn env
def bwM (vs ks : List Nat) (m : M OV) : M OV := fun env => if noOwn (killE ks (frzE vs env)) = true then (match m (killE ks (frzE vs env)) with
    | .ok r _ => if closed r = true then .ok r env else .ok r (frzE vs env)
    | .ex x _ => .ex x (frzE vs env)
    | .bad => .bad) else .bad
section
variable {S : Ctx} {e : Expr} {es : List Expr}
theorem noOwn_at : ∀ {env : Env} {i : Nat} {x : OV}, noOwn env = true → env[i]? = some (some x) → ∀ xs, x ≠ .ol xs
  | o :: env, 0, x, h, e, xs => by
    have e : o = some x := by simpa using e
    subst e
    intro z; subst z; cases h
  | o :: env, i + 1, x, h, e, xs => by
    refine noOwn_at (env := env) (i := i) ?_ (by simpa using e) xs
    cases o with
    | none => exact h
    | some y => cases y <;> first | exact h | cases h
theorem SI.noOwn {K : PySem.W.Frag} {Z H : Hp} {σ : St} {env : Env} {F : Fp} (I : SI K Z H σ env F) (h : noOwn env = true) (i : Nat) : F i = [] := by
  cases q : env[i]? with
  | none => exact I.non i fun x e => by rw [q] at e; cases e
  | some o =>
    cases o with
    | none => exact I.non i fun x e => by rw [q] at e; cases e
    | some x =>
      obtain ⟨v, _, r⟩ := I.rep i x q
      generalize hG : F i = G at r
      cases r with
      | fz _ => rfl
      | sc _ => rfl
      | ol _ _ _ _ _ => exact absurd rfl (noOwn_at h q _)
theorem frzE_ok : ∀ (vs : List Nat) {σ : St} {env : Env} {Z H : Hp} {F : Fp}, SI S.K Z H σ env F → ∃ Z' F', SI S.K Z' H σ (frzE vs env) F' ∧ Stp Z H F Z' H F' []
  | [], σ, env, Z, H, F, I => ⟨Z, F, I, .refl⟩
  | i :: vs, σ, env, Z, H, F, I => by
    unfold frzE
    cases q : env[i]? with
    | none => exact frzE_ok vs I
    | some o =>
      cases o with
      | none => exact frzE_ok vs I
      | some x =>
        cases x with
        | fz d => exact frzE_ok vs I
        | sc ns => exact frzE_ok vs I
        | ol xs =>
          cases qd : dsOf xs with
          | none => simp only [qd]; exact frzE_ok vs I
          | some ds =>
            simp only [qd]
            obtain ⟨v, Z1, _, _, I1, s1⟩ := I.frzAt q qd
            obtain ⟨Z2, F2, I2, s2⟩ := frzE_ok vs I1
            exact ⟨Z2, F2, I2, s1.trans0 s2⟩
theorem killE_ok {K : PySem.W.Frag} : ∀ (ks : List Nat) {σ : St} {env : Env} {Z H : Hp} {F : Fp}, SI K Z H σ env F → ∃ F', SI K Z H σ (killE ks env) F'
  | [], σ, env, Z, H, F, I => ⟨F, I⟩
  | i :: ks, σ, env, Z, H, F, I => killE_ok ks (I.gone i)
/-- what a step over a view without owners leaves of the real state -/
theorem view_back {K : PySem.W.Frag} {σ : St} {env envF : Env} {Z Z1 Z' H H' : Hp} {F F1 F2 F'' : Fp} {G : List Addr} (I : SI K Z H σ env F) (I1 : SI K Z1 H σ envF F1) (s1 : Stp Z H F Z1 H F1 []) (no : ∀ i, F2 i = []) (s : Stp Z1 H F2 Z' H' F'' G) (sub : Ex Z' H') :
    (SI K Z H' σ env F ∧ Stp Z H F Z H' F G) ∧ (SI K Z' H' σ envF F1 ∧ Stp Z H F Z' H' F1 G) := by
  have eh : Ex H H' := fun b o h => s.fr b o h fun i z => by rw [no i] at z; cases z
  have gN : ∀ b, b ∈ G → H b = none := fun b hb => (s.gr b (.inl hb)).elim (fun ⟨i, z⟩ => by rw [no i] at z; cases z) id
  have gZ : ∀ b, Z' b ≠ none → Z1 b ≠ none ∨ H b = none := fun b hb => (s.gz b hb).imp id fun z => z.elim (fun ⟨i, y⟩ => by rw [no i] at y; cases y) id
  obtain ⟨s0, I0⟩ := I.grow eh
  have gd : ∀ i b, b ∈ G → b ∉ F i := fun i b hb hc => by
    obtain ⟨_, ws, q⟩ := I.own hc
    rw [gN b hb] at q; cases q
  have gd1 : ∀ i b, b ∈ G → b ∉ F1 i := fun i b hb hc => by
    obtain ⟨_, ws, q⟩ := I1.own hc
    rw [gN b hb] at q; cases q
  refine ⟨⟨I0, s0.zz, s0.fr, fun b h => h.elim (fun z => .inr (gN b z)) fun z => .inl z, s0.gz, gd⟩, SI.frame s I1 (fun i j b _ hc => by rw [no j] at hc; cases hc) sub, ?_⟩
  refine s1.trans0 ⟨s.zz, fun b o h _ => eh b o h, fun b h => h.elim (fun z => .inr (gN b z)) .inl, fun b hb => (gZ b hb).imp id .inr, gd1⟩
theorem sv_bw {m : M OV} (vs ks : List Nat) (h : SV S e m) : SV S e (bwM vs ks m) := .of fun σ env Z H F I Q mm hm k kx kb => by
  unfold bwM at hm
  split at hm
  · rename_i hno
    obtain ⟨Z1, F1, I1, s1⟩ := frzE_ok vs I
    obtain ⟨F2, I2⟩ := killE_ok ks I1
    have no := I2.noOwn hno
    refine h σ _ Z1 H F2 I2 Q (fun r env' q v Z' H' F'' G I' r' s => ?_) (fun x env' q Z' H' F'' cls d I' s hx => ?_) fun q => kb (by rw [hm, q])
    · rw [q] at hm
      have hm : mm = (if closed r = true then .ok r env else .ok r (frzE vs env)) := hm
      obtain ⟨⟨A1, A2⟩, B1, B2⟩ := view_back I I1 s1 no s I'.sub
      split at hm
      · rename_i hc
        exact k _ _ hm v Z H' F G A1 (r'.closed (fun b z => by
          cases q : Z b with
          | none => rfl
          | some o => rw [s.zz b o (s1.zz b o q)] at z; cases z) hc) A2
      · exact k _ _ hm v Z' H' F1 G B1 r' B2
    · rw [q] at hm
      obtain ⟨_, B1, B2⟩ := view_back I I1 s1 no s I'.sub
      exact kx x _ hm Z' H' F1 cls d B1 B2 hx
  · exact absurd hm kb
end

/-! ### statements -/
inductive So where
  | nx (env : Env)
  | ret (r : OV) (env : Env)
  | ex (x : Exn) (env : Env)
  | bad
abbrev MS := Env → So
def So.bind (m : So) (k : Env → So) : So := match m with
  | .nx e => k e
  | .ret r e => .ret r e
  | .ex x e => .ex x e
  | .bad => .bad
def Rs.so {α : Type} (m : Rs α) (k : α → Env → So) : So := match m with
  | .ok a e => k a e
  | .ex x e => .ex x e
  | .bad => .bad
/-- the lent parameters' slots are as they were -/
def Kp (own : List Nat) (σ σ' : St) : Prop := ∀ i, i ∈ own → σ'[i]? = σ[i]?
theorem Kp.refl {own : List Nat} {σ : St} : Kp own σ σ := fun _ _ => rfl
theorem Kp.trans {own : List Nat} {σ σ1 σ2 : St} (a : Kp own σ σ1) (b : Kp own σ1 σ2) : Kp own σ σ2 := fun i h => (b i h).trans (a i h)
def KS (S : Ctx) (own : List Nat) (σ : St) (Z H : Hp) (F : Fp) (mm : So) : Prop := ∀ x env', mm = .ex x env' → ∀ σ' Z' H' F' cls d, SI S.K Z' H' σ' env' F' → Stp Z H F Z' H' F' [] → Kp own σ σ' → S.exr x cls d H' → S.W cls d σ' H'
section
variable {S : Ctx} {own : List Nat} {σ σ1 : St} {env : Env} {Z H Z1 H1 : Hp} {F F1 : Fp}
theorem KS.step {mm : So} (k : KS S own σ Z H F mm) (s : Stp Z H F Z1 H1 F1 []) (kp : Kp own σ σ1) : KS S own σ1 Z1 H1 F1 mm :=
  fun x env' e σ' Z' H' F' cls d I t kq q => k x env' e σ' Z' H' F' cls d I (s.trans0 t) (kp.trans kq) q
theorem KS.kx {mm : So} {α : Type} {nn : Rs α} (k : KS S own σ Z H F mm) (h : ∀ x e, nn = .ex x e → mm = .ex x e) : KX S σ Z H F nn :=
  fun x env' e Z' H' F' cls d I t q => k x env' (h x env' e) σ Z' H' F' cls d I t .refl q
theorem KS.rs {mm : So} {α : Type} {nn : Rs α} {kk : α → Env → So} (k : KS S own σ Z H F mm) (h : mm = nn.so kk) : KX S σ Z H F nn := k.kx fun x e q => by rw [h, q]; rfl
theorem so_nb {mm : So} {α : Type} {nn : Rs α} {kk : α → Env → So} (h : mm = nn.so kk) (kb : mm ≠ .bad) : nn ≠ .bad := fun z => kb (by rw [h, z]; rfl)
/-- what is wanted behind a statement that does mm -/
structure Wn (S : Ctx) (own : List Nat) (σ : St) (Z H : Hp) (F : Fp) (D : Ends) (mm : So) : Prop where
  nx : ∀ env', mm = .nx env' → ∀ σ' Z' H' F', SI S.K Z' H' σ' env' F' → Stp Z H F Z' H' F' [] → Kp own σ σ' → D.nx σ' H'
  rt : ∀ r env', mm = .ret r env' → ∀ v σ' Z' H' F' G, SI S.K Z' H' σ' env' F' → OR S.K Z' H' v r G → Stp Z H F Z' H' F' G → Kp own σ σ' → D.rt v H'
  ex : KS S own σ Z H F mm
  nb : mm ≠ .bad
theorem Wn.step {D : Ends} {mm : So} (w : Wn S own σ Z H F D mm) (s : Stp Z H F Z1 H1 F1 []) (kp : Kp own σ σ1) : Wn S own σ1 Z1 H1 F1 D mm :=
  ⟨fun env' e σ' Z' H' F' I t kq => w.nx env' e σ' Z' H' F' I (s.trans0 t) (kp.trans kq), fun r env' e v σ' Z' H' F' G I o t kq => w.rt r env' e v σ' Z' H' F' G I o (s.trans0 t) (kp.trans kq), w.ex.step s kp, w.nb⟩
theorem Wn.eq {D : Ends} {mm nn : So} (w : Wn S own σ Z H F D mm) (h : mm = nn) : Wn S own σ Z H F D nn := h ▸ w
end
def SS (S : Ctx) (own : List Nat) (st : Stmt) (m : MS) : Prop := ∀ (σ : St) (env : Env) (Z H : Hp) (F : Fp), SI S.K Z H σ env F → ∀ D : Ends, Wn S own σ Z H F D (m env) → wS S st D σ H
def SSs (S : Ctx) (own : List Nat) (sts : List Stmt) (m : MS) : Prop := ∀ (σ : St) (env : Env) (Z H : Hp) (F : Fp), SI S.K Z H σ env F → ∀ D : Ends, Wn S own σ Z H F D (m env) → wSs S sts D σ H
section
variable {S : Ctx} {own : List Nat} {st : Stmt} {sts : List Stmt} {e a b c tg iter : Expr} {m ms : MS} {pos : Pos} {σ : St} {env : Env} {Z H : Hp} {F : Fp}
theorem SV.so {m : M OV} (h : SV S e m) (I : SI S.K Z H σ env F) {mm : So} {kk : OV → Env → So} {D : Ends} (w : Wn S own σ Z H F D mm) (hm : mm = (m env).so kk) {Q : VK}
    (k : ∀ r env1 v Z1 H1 F1 G, m env = .ok r env1 → mm = kk r env1 → SI S.K Z1 H1 σ env1 F1 → OR S.K Z1 H1 v r G → Stp Z H F Z1 H1 F1 G → Q v H1) : wE S e σ H Q :=
  h σ env Z H F I Q (fun r env1 e v Z1 H1 F1 G I1 r1 s1 => k r env1 v Z1 H1 F1 G e (by rw [hm, e]; rfl) I1 r1 s1) (w.ex.rs hm) (so_nb hm w.nb)
theorem SD.so {m : M PyData} (h : SD S e m) (I : SI S.K Z H σ env F) {mm : So} {kk : PyData → Env → So} {D : Ends} (w : Wn S own σ Z H F D mm) (hm : mm = (m env).so kk) {Q : VK}
    (k : ∀ d env1 v Z1 H1 F1, m env = .ok d env1 → mm = kk d env1 → SI S.K Z1 H1 σ env1 F1 → Rp Z1 v d → Stp Z H F Z1 H1 F1 [] → Q v H1) : wE S e σ H Q :=
  h σ env Z H F I Q (fun r env1 e v Z1 H1 F1 I1 r1 s1 => k r env1 v Z1 H1 F1 e (by rw [hm, e]; rfl) I1 r1 s1) (w.ex.rs hm) (so_nb hm w.nb)
theorem SB.so {m : M Bool} (h : SB S e m) (I : SI S.K Z H σ env F) {mm : So} {kk : Bool → Env → So} {D : Ends} (w : Wn S own σ Z H F D mm) (hm : mm = (m env).so kk) {Q : Bool → Hp → Prop}
    (k : ∀ d env1 Z1 H1 F1, m env = .ok d env1 → mm = kk d env1 → SI S.K Z1 H1 σ env1 F1 → Stp Z H F Z1 H1 F1 [] → Q d H1) : wT S e σ H Q :=
  h σ env Z H F I Q (fun r env1 e Z1 H1 F1 I1 s1 => k r env1 Z1 H1 F1 e (by rw [hm, e]; rfl) I1 s1) (w.ex.rs hm) (so_nb hm w.nb)

/-! blocks -/
theorem sss_nil : SSs S own [] (fun env => .nx env) := fun σ env Z H F I D w => ⟨tNext, fun X hX => pss_nil, w.nx env rfl σ Z H F I .refl .refl⟩
theorem sss_cons (h1 : SS S own st m) (h2 : SSs S own sts ms) : SSs S own (st :: sts) (fun env => (m env).bind ms) := fun σ env Z H F I D w => by
  refine ⟨tSeq (wS S st) (wSs S sts), fun X hX => pss_cons (ps_w hX) (pss_w hX), ?_⟩
  refine h1 σ env Z H F I { D with nx := wSs S sts D } ⟨fun env1 q σ1 Z1 H1 F1 I1 s1 k1 => ?_, fun r env' q v σ' Z' H' F' G I' o s' k' => w.rt r env' (by simp [So.bind, q]) v σ' Z' H' F' G I' o s' k', fun x env' q => w.ex x env' (by simp [So.bind, q]), fun q => w.nb (by simp [So.bind, q])⟩
  exact h2 σ1 env1 Z1 H1 F1 I1 D ((w.step s1 k1).eq (by simp [So.bind, q]))
theorem ss_pass : SS S own (.Pass pos) (fun env => .nx env) := fun σ env Z H F I D w => ⟨tNext, fun X hX => ps_pass, w.nx env rfl σ Z H F I .refl .refl⟩
/-! name = e -/
def asgM (own : List Nat) (i : Nat) (m : M OV) : MS := fun env => if own.contains i = true then .bad else (m env).so fun r e1 => if i < e1.length then .nx (e1.set i (some r)) else .bad
theorem kp_set {σ : St} {i : Nat} {o : Option V} (h : own.contains i = false) : Kp own σ (σ.set i o) := fun j hj => by
  rw [List.getElem?_set_ne]
  intro z; subst z
  rw [List.contains_iff_mem.mpr hj] at h; cases h
theorem store_stp {K : PySem.W.Frag} {Z H Z1 H1 : Hp} {F F1 : Fp} {G : List Addr} {i : Nat} (s : Stp Z H F Z1 H1 F1 G) : Stp Z H F Z1 H1 (setF F1 i G) [] := by
  refine ⟨s.zz, s.fr, fun b h => h.elim (fun z => by cases z) fun ⟨j, z⟩ => ?_, s.gz, fun _ _ h => by cases h⟩
  by_cases q : j = i
  · subst q; rw [setF_same] at z; exact s.gr b (.inl z)
  · rw [setF_ne q] at z; exact s.gr b (.inr ⟨j, z⟩)
def notComp : Expr → Bool
  | .ListComp _ _ _ _ => false
  | .SetComp _ _ _ _ => false
  | .DictComp _ _ _ _ _ => false
  | _ => true
theorem noSwap {t : Option Expr} {l : Nat} {env : PySem.Env} (h : notComp e = true) : swapsWith e t l env = pure false := by
  cases e <;> first | rfl | cases h
theorem asg_core {i : Nat} {m : M OV} {D : Ends} (hm : own.contains i = false) (w : Wn S own σ Z H F D (asgM own i m env)) {Q : VK}
    (run : ∀ (kk : OV → Env → So), asgM own i m env = (m env).so kk → (∀ r env1 v Z1 H1 F1 G, asgM own i m env = kk r env1 → SI S.K Z1 H1 σ env1 F1 → OR S.K Z1 H1 v r G → Stp Z H F Z1 H1 F1 G → D.nx (σ.set i (some v)) H1) → wE S e σ H Q) : wE S e σ H Q := by
  refine run (fun r e1 => if i < e1.length then .nx (e1.set i (some r)) else .bad) (by unfold asgM; rw [if_neg (by rw [hm]; exact Bool.false_ne_true)]) fun r env1 v Z1 H1 F1 G q I1 r1 s1 => ?_
  by_cases hi : i < env1.length
  · rw [if_pos hi] at q
    exact w.nx _ q _ Z1 H1 _ (I1.put hi r1 s1.gd) (store_stp (K := S.K) s1) (kp_set hm)
  · rw [if_neg hi] at q
    exact absurd q w.nb
theorem asg_own {i : Nat} {m : M OV} (h : asgM own i m env ≠ .bad) : own.contains i = false := by
  unfold asgM at h
  cases q : own.contains i with
  | false => rfl
  | true => rw [if_pos q] at h; exact absurd rfl h
theorem asg_fin {i : Nat} {m : M OV} {D : Ends} (w : Wn S own σ Z H F D (asgM own i m env)) : asgM own i m env = (m env).so (fun r e1 => if i < e1.length then .nx (e1.set i (some r)) else .bad) ∧
    ∀ r env1 v Z1 H1 F1 G, asgM own i m env = (if i < env1.length then .nx (env1.set i (some r)) else .bad) → SI S.K Z1 H1 σ env1 F1 → OR S.K Z1 H1 v r G → Stp Z H F Z1 H1 F1 G → D.nx (σ.set i (some v)) H1 := by
  have ho := asg_own w.nb
  refine ⟨by unfold asgM; rw [if_neg (by rw [ho]; exact Bool.false_ne_true)], fun r env1 v Z1 H1 F1 G q I1 r1 s1 => ?_⟩
  by_cases hi : i < env1.length
  · rw [if_pos hi] at q
    exact w.nx _ q _ Z1 H1 _ (I1.put hi r1 s1.gd) (store_stp (K := S.K) s1) (kp_set ho)
  · rw [if_neg hi] at q
    exact absurd q w.nb
theorem ss_asg {i : Nat} {x : Str} {p : Pos} {m : M OV} (n : StoOk S i x) (h : SV S e m) (hc : notComp e = true) : SS S own (.Assign [.Name x p] e pos) (asgM own i m) := fun σ env Z H F I D w => by
  refine ⟨tAsg (wE S e) (gName i), fun X hX => ps_set (by rw [hX.N]; exact n.nd) (by rw [hX.N]; exact n.at_) (by rw [hX.scope]; exact n.loc) (pe_w hX) (noSwap hc) (by rw [hX.fn, hX.scope]; exact n.fn), ?_⟩
  obtain ⟨hm, fin⟩ := asg_fin w
  exact h.so I w hm fun r env1 v Z1 H1 F1 G _ q I1 r1 s1 => fin r env1 v Z1 H1 F1 G q I1 r1 s1
/-- a comprehension that is stored at once -/
def swapB (sc : Scope) (y : Str) (l l2 : Nat) (scope : Scope) : Bool := (sc.names.lookup y == some .local) && l == l2 && !(scope.names.any fun (n, k) => n == y && (k == .local || k == .cell))
theorem ss_asgC {i : Nat} {y : Str} {py p2 spos : Pos} {elt : Expr} {ifs : List Expr} {scope : Scope} {ow : List (Str × Nat)} {mi : M (List PyData)} {bd : PyData → Env → Option Env} {tc : M Bool} {me : M PyData} {js : List Nat} (n : StoOk S i y) (hk : S.scope.kind = .function)
    (hi : SIt S tg iter mi) (hN : S.N.Nodup) (ok : BlkOk S.N S.scope scope ow) (hjs : ∀ j, j ∈ js → j ∈ ow.map (·.2)) (hg : SG (S.blk scope) tg js bd) (ht : STs (S.blk scope) ifs tc) (he : SD (S.blk scope) elt me) (hs : notSetE iter = true) :
    SS S own (.Assign [.Name y py] (.ListComp elt [⟨tg, iter, ifs, 0⟩] scope p2) spos) (asgM own i (compM mi bd tc me (ow.map (·.2)))) := fun σ env Z H F I D w => by
  have hp : ∀ X : Cx, S.has X → PE X (.ListComp elt [⟨tg, iter, ifs, 0⟩] scope p2) (tLc (wI S tg iter) (wG (S.blk scope) tg) (wTs (S.blk scope) ifs) (wE (S.blk scope) elt) (ow.map (·.2))) := fun X hX =>
    pe_lc hX.calm (by rw [hX.N]; exact hN) (pi_w hX) (by rw [hX.N, hX.scope]; exact ok)
      (fun s H C cl fp => pg_w (has_blk hX scope s H C cl fp)) (fun s H C cl fp => pts_w (has_blk hX scope s H C cl fp)) (fun s H C cl fp => pe_w (has_blk hX scope s H C cl fp)) (folded hs)
  refine ⟨tAsg (tLc (wI S tg iter) (wG (S.blk scope) tg) (wTs (S.blk scope) ifs) (wE (S.blk scope) elt) (ow.map (·.2))) (gName i), fun X hX => ?_, ?_⟩
  · have hbk : X.env.blockKind = .function := by unfold PySem.Env.blockKind; rw [hX.scope, hk]; rfl
    have hsw : swapsWith (.ListComp elt [⟨tg, iter, ifs, 0⟩] scope p2) (some (.Name y py)) spos.line X.env = pure (swapB S.scope y py.line p2.line scope) := by
      unfold swapsWith swapB
      simp only [hbk, Expr.pos]
      have : X.env.kindOf y = S.scope.names.lookup y := by show X.env.scope.names.lookup y = _; rw [hX.scope]
      rw [this]
      rfl
    by_cases hb : swapB S.scope y py.line p2.line scope = true
    · have hloc : X.env.scope.names.lookup y = some .local := by
        unfold swapB at hb
        simp only [Bool.and_eq_true, beq_iff_eq] at hb
        rw [hX.scope]; exact hb.1.1
      exact ps_setLc hX.calm (by rw [hX.N]; exact hN) (by rw [hX.N]; exact n.at_) hloc (by rw [hsw, hb]) (pi_w hX) (by rw [hX.N, hX.scope]; exact ok)
        (fun s H C cl fp => pg_w (has_blk hX scope s H C cl fp)) (fun s H C cl fp => pts_w (has_blk hX scope s H C cl fp)) (fun s H C cl fp => pe_w (has_blk hX scope s H C cl fp)) (folded hs)
    · have hb : swapB S.scope y py.line p2.line scope = false := by simpa using hb
      exact ps_set (by rw [hX.N]; exact n.nd) (by rw [hX.N]; exact n.at_) (by rw [hX.scope]; exact n.loc) (hp X hX) (by rw [hsw, hb]) (by rw [hX.fn, hX.scope]; exact n.fn)
  obtain ⟨hm, fin⟩ := asg_fin w
  -- the statement's meaning as an expression's
  obtain ⟨nn, hn⟩ : ∃ nn : Rs OV, nn = compM mi bd tc me (ow.map (·.2)) env := ⟨_, rfl⟩
  refine lc_read hi hjs hg ht he I (hn.trans Rs.bind_idO.symm) (fun r env1 q v Z1 H1 F1 G I1 r1 s1 => ?_) (by rw [hn]; exact w.ex.rs hm) (by rw [hn]; exact so_nb hm w.nb)
  exact fin r env1 v Z1 H1 F1 G (by rw [hm, ← hn, q]; rfl) I1 r1 s1
/-! an expression alone -/
def exprM (m : M OV) : MS := fun env => (m env).so fun _ e1 => .nx e1
theorem ss_expr {m : M OV} (h : SV S e m) (hc : notComp e = true) : SS S own (.Expr e pos) (exprM m) := fun σ env Z H F I D w => by
  refine ⟨tDrop (wE S e), fun X hX => ps_expr (pe_w hX) (noSwap hc), ?_⟩
  exact h.so I w rfl fun r env1 v Z1 H1 F1 G _ q I1 r1 s1 => w.nx _ q σ Z1 H1 F1 I1 s1.drop .refl
/-! return -/
def retM (m : M OV) : MS := fun env => (m env).so fun r e1 => .ret r e1
theorem ss_ret {m : M OV} (h : SV S e m) : SS S own (.Return (some e) pos) (retM m) := fun σ env Z H F I D w => by
  refine ⟨tRet (wE S e), fun X hX => ps_ret (pe_w hX), ?_⟩
  exact h.so I w rfl fun r env1 v Z1 H1 F1 G _ q I1 r1 s1 => w.rt _ _ q v σ Z1 H1 F1 G I1 r1 s1 .refl
theorem ss_retN : SS S own (.Return none pos) (fun env => .ret (.fz .none) env) := fun σ env Z H F I D w =>
  ⟨tRetN, fun X hX => ps_retN, w.rt _ _ rfl .non σ Z H F [] I (.fz .non) .refl .refl⟩
/-! if -/
def ifM (tc : M Bool) (ma mb : MS) : MS := fun env => (tc env).so fun r e1 => if r = true then ma e1 else mb e1
theorem ss_if {tc : M Bool} {sa sb : List Stmt} {ma mb : MS} (hc : SB S c tc) (ha : SSs S own sa ma) (hb : SSs S own sb mb) : SS S own (.If c sa sb pos) (ifM tc ma mb) := fun σ env Z H F I D w => by
  refine ⟨tIfS (wT S c) (wSs S sa) (wSs S sb), fun X hX => ps_if (pt_w hX) (pss_w hX) (pss_w hX), ?_⟩
  refine hc.so I w rfl fun r env1 Z1 H1 F1 _ q I1 s1 => ?_
  cases r with
  | true => exact iteT (ha σ env1 Z1 H1 F1 I1 D ((w.step s1 .refl).eq (by rw [q]; rfl)))
  | false => exact iteF (hb σ env1 Z1 H1 F1 I1 D ((w.step s1 .refl).eq (by rw [q]; rfl)))
/-! for -/
def forL (bd : PyData → Env → Option Env) (mb : MS) : List PyData → Env → So
  | [], env => .nx env
  | d :: ds, env => match bd d env with
    | none => .bad
    | some e1 => (mb e1).bind fun e2 => forL bd mb ds e2
def forM' (own js : List Nat) (mi : M (List PyData)) (bd : PyData → Env → Option Env) (mb : MS) : MS := fun env => if js.any own.contains = true then .bad else (mi env).so fun ds e1 => forL bd mb ds e1
theorem kp_js {js : List Nat} {σ σ' : St} (h : js.any own.contains = false) (k : ∀ j, j ∉ js → σ'[j]? = σ[j]?) : Kp own σ σ' := fun i hi => k i fun z => by
  have : js.any own.contains = true := List.any_eq_true.mpr ⟨i, z, List.contains_iff_mem.mpr hi⟩
  rw [this] at h; cases h
/-- a new frozen object of the iterator's -/
theorem SI.yield {K : PySem.W.Frag} {Z Z' H H' : Hp} (I : SI K Z H σ env F) (ez : Ex Z Z') (eh : Ex Z' H') (exh : Ex H H') (gz : ∀ b, Z' b ≠ none → Z b ≠ none ∨ H b = none) : SI K Z' H' σ env F ∧ Stp Z H F Z' H' F [] := by
  refine ⟨⟨I.len, eh, fun j u e => ?_, I.non, I.dis⟩, ez, fun b o e _ => exh b o e, fun b h => h.elim (fun z => by cases z) .inl, fun b hb => (gz b hb).imp id .inr, fun _ _ h => by cases h⟩
  obtain ⟨v, ev, r⟩ := I.rep j u e
  refine ⟨v, ev, r.mono ez (fun b hb => ?_) fun b hb => ?_⟩
  · obtain ⟨_, ws, q⟩ := r.own b hb
    rw [q]; exact exh b _ q
  · cases q : Z' b with
    | none => rfl
    | some o =>
      obtain ⟨z0, ws, qw⟩ := r.own b hb
      rcases gz b (by rw [q]; exact fun z => by cases z) with z | z
      · exact absurd z0 z
      · rw [qw] at z; cases z
theorem ss_for {mi : M (List PyData)} {bd : PyData → Env → Option Env} {mb : MS} {js : List Nat} {body : List Stmt} (hi : SIt S tg iter mi) (hg : SG S tg js bd) (hb : SSs S own body mb) (hs : notSetE iter = true) : SS S own (.For tg iter body [] pos) (forM' own js mi bd mb) := fun σ env Z H F I D w => by
  refine ⟨tFor (wI S tg iter) (wG S tg) (wSs S body), fun X hX => ps_for hX.own hX.calm (pi_w hX) (pg_w hX) (pss_w hX) (folded hs), ?_⟩
  obtain ⟨hj, hm⟩ : js.any own.contains = false ∧ forM' own js mi bd mb env = (mi env).so fun ds e1 => forL bd mb ds e1 := by
    have nb := w.nb
    unfold forM' at nb ⊢
    cases q : js.any own.contains with
    | false => exact ⟨rfl, by rw [if_neg Bool.false_ne_true]⟩
    | true => rw [if_pos q] at nb; exact absurd rfl nb
  refine hi σ env Z H F I _ (fun ds e1 q J Z1 H1 F1 I1 w1 s1 => ?_) (w.ex.rs hm) (so_nb hm w.nb)
  have hm1 : forM' own js mi bd mb env = forL bd mb ds e1 := by rw [hm, q]; rfl
  obtain ⟨G, Y, wk, hG, hY⟩ := w1.ex
  refine for_it wk (fun i σi Hi => ∃ Zi envi Fi, SI S.K Zi Hi σi envi Fi ∧ Stp Z1 H1 F1 Zi Hi Fi [] ∧ Kp own σ σi ∧ forM' own js mi bd mb env = forL bd mb (ds.drop i) envi) ⟨Z1, e1, F1, I1, .refl, .refl, by rw [List.drop_zero]; exact hm1⟩ ?_ ?_ ?_
  · rintro i σi Hi _ ⟨Zi, envi, Fi, Ii, si, ki, hi'⟩
    exact hG Hi (si.zz.trans Ii.sub)
  · rintro i x σi Hi H' hlt ⟨Zi, envi, Fi, Ii, si, ki, hmi⟩ y
    have hlt : i < ds.length := hlt
    obtain ⟨Z', ez, eh, exh, rx, gz⟩ := hY i Hi x H' ds[i] y (List.getElem?_eq_getElem hlt) Zi si.zz Ii.sub
    obtain ⟨IA, sA⟩ := Ii.yield ez eh exh gz
    rw [List.drop_eq_getElem_cons hlt] at hmi
    cases qb : bd ds[i] envi with
    | none => exact absurd (by rw [hmi]; unfold forL; rw [qb]) w.nb
    | some eb =>
      have hmi2 : forM' own js mi bd mb env = (mb eb).bind fun e2 => forL bd mb (ds.drop (i + 1)) e2 := by rw [hmi]; conv => lhs; unfold forL; rw [qb]
      refine hg σi envi eb Z' H' Fi x ds[i] IA rx qb _ fun σb Fb Ib sb kb lb => ?_
      have st : Stp Z1 H1 F1 Z' H' Fb [] := (si.trans0 sA).trans0 sb
      have kk : Kp own σ σb := ki.trans (kp_js hj kb)
      have w2 := (w.step (s1.trans0 st) kk).eq hmi2
      refine hb σb eb Z' H' Fb Ib _ ⟨fun env' q σ' Z2 H2 F2 I2 s2 k2 => ?_, fun r env' q v σ' Z2 H2 F2 G I2 o s2 k2 => w2.rt r env' (by rw [q]; rfl) v σ' Z2 H2 F2 G I2 o s2 k2, fun x' env' q => w2.ex x' env' (by rw [q]; rfl), fun q => w2.nb (by rw [q]; rfl)⟩
      exact ⟨Z2, env', F2, I2, st.trans0 s2, kk.trans k2, by rw [hmi2, q]; rfl⟩
  · rintro σi Hi ⟨Zi, envi, Fi, Ii, si, ki, hmi⟩
    rw [List.drop_length] at hmi
    exact w.nx envi hmi σi Zi Hi Fi Ii (s1.trans0 si) ki
/-! while -/
def whileL (tc : M Bool) (mb : MS) : Nat → Env → So
  | 0, _ => .bad
  | n + 1, env => (tc env).so fun r e1 => if r = true then (mb e1).bind (whileL tc mb n) else .nx e1
theorem ss_while {n : Nat} {tc : M Bool} {mb : MS} {body : List Stmt} (hc : SB S c tc) (hb : SSs S own body mb) : SS S own (.While c body [] pos) (whileL tc mb n) := fun σ env Z H F I D w => by
  refine ⟨tWhile (wT S c) (wSs S body), fun X hX => ps_while hX.own (pt_w hX) (pss_w hX), ?_⟩
  refine ⟨fun k σi Hi => ∃ Zi envi Fi, SI S.K Zi Hi σi envi Fi ∧ Stp Z H F Zi Hi Fi [] ∧ Kp own σ σi ∧ whileL tc mb n env = whileL tc mb k envi, ⟨n, Z, env, F, I, .refl, .refl, rfl⟩, ?_⟩
  rintro k σi Hi ⟨Zi, envi, Fi, Ii, si, ki, hmi⟩
  cases k with
  | zero => exact absurd hmi w.nb
  | succ k =>
    have w1 := (w.step si ki).eq hmi
    refine hc.so Ii w1 rfl fun r env1 Z1 H1 F1 _ q I1 s1 => ?_
    cases r with
    | false =>
      exact iteF (w1.nx env1 q σi Z1 H1 F1 I1 s1 .refl)
    | true =>
      refine iteT ?_
      have q : whileL tc mb (k + 1) envi = (mb env1).bind (whileL tc mb k) := q
      have w2 := (w1.step s1 .refl).eq q
      refine ⟨fun σ2 H2 => ∃ Z2 env2 F2, SI S.K Z2 H2 σ2 env2 F2 ∧ Stp Z H F Z2 H2 F2 [] ∧ Kp own σ σ2 ∧ whileL tc mb n env = whileL tc mb k env2, fun σ2 H2 h => ⟨k, Nat.lt_succ_self k, h⟩, ?_⟩
      refine hb σi env1 Z1 H1 F1 I1 _ ⟨fun env' q2 σ' Z2 H2 F2 I2 s2 k2 => ?_, fun r env' q2 v σ' Z2 H2 F2 G I2 o s2 k2 => w2.rt r env' (by rw [q2]; rfl) v σ' Z2 H2 F2 G I2 o s2 k2, fun x' env' q2 => w2.ex x' env' (by rw [q2]; rfl), fun q2 => w2.nb (by rw [q2]; rfl)⟩
      exact ⟨Z2, env', F2, I2, (si.trans0 s1).trans0 s2, ki.trans k2, by rw [hmi, q, q2]; rfl⟩
end
end Vi

set_option Elab.async false
set_option linter.all false
set_option maxRecDepth 100000
namespace Vi
open PySem L2

/-! ### writing into an owned list -/
section
variable {K : PySem.W.Frag} {Z H Z0 H0 : Hp} {σ : St} {env : Env} {F F0 : Fp} {G : List Addr} {i : Nat}
theorem ORs.one {v : V} {x : OV} (r : OR K Z H v x G) : ORs K Z H [v] [x] G := by
  have := ORs.cons r .nil (fun b _ z => by cases z)
  rwa [List.append_nil] at this
theorem ORs.set {v : V} {d : PyData} (r : Rp Z v d) : ∀ {vs : List V} {xs : List OV} {Fx : List Addr} (n : Nat), ORs K Z H vs xs Fx → ∃ F', ORs K Z H (vs.set n v) (xs.set n (.fz d)) F' ∧ ∀ b, b ∈ F' → b ∈ Fx
  | _, _, _, _, .nil => ⟨[], .nil, fun _ h => h⟩
  | _, _, _, 0, .cons (F := F) (G := G) q t dj => ⟨[] ++ G, .cons (.fz r) t (fun _ z => nomatch z), fun b hb => List.mem_append_right _ hb⟩
  | _, _, _, n + 1, .cons (F := F) (G := G) q t dj => by
    obtain ⟨F', t', h⟩ := ORs.set r n t
    refine ⟨F ++ F', .cons q t' (fun b hb hc => dj b hb (h b hc)), fun b hb => ?_⟩
    rcases List.mem_append.mp hb with z | z
    · exact List.mem_append_left _ z
    · exact List.mem_append_right _ (h b z)
theorem ORs.erase : ∀ {vs : List V} {xs : List OV} {Fx : List Addr} (n : Nat), ORs K Z H vs xs Fx → ∃ F', ORs K Z H (vs.eraseIdx n) (xs.eraseIdx n) F' ∧ ∀ b, b ∈ F' → b ∈ Fx
  | _, _, _, _, .nil => ⟨[], .nil, fun _ h => h⟩
  | _, _, _, 0, .cons (F := F) (G := G) q t dj => ⟨G, t, fun b hb => List.mem_append_right _ hb⟩
  | _, _, _, n + 1, .cons (F := F) (G := G) q t dj => by
    obtain ⟨F', t', h⟩ := ORs.erase n t
    refine ⟨F ++ F', .cons q t' (fun b hb hc => dj b hb (h b hc)), fun b hb => ?_⟩
    rcases List.mem_append.mp hb with z | z
    · exact List.mem_append_left _ z
    · exact List.mem_append_right _ (h b z)
theorem ORs.get : ∀ {vs : List V} {xs : List OV} {Fx : List Addr} {n : Nat} {x : OV}, ORs K Z H vs xs Fx → xs[n]? = some x → ∃ v F', vs[n]? = some v ∧ OR K Z H v x F' ∧ ∀ b, b ∈ F' → b ∈ Fx
  | _, _, _, _, _, .nil, h => by simp at h
  | _, _, _, 0, x, .cons (F := F) q t dj, h => by simp at h; subst h; exact ⟨_, F, rfl, q, fun b hb => List.mem_append_left _ hb⟩
  | _, _, _, n + 1, x, .cons q t dj, h => by
    obtain ⟨v, F', e, r, s⟩ := ORs.get (n := n) t (by simpa using h)
    exact ⟨v, F', by simpa using e, r, fun b hb => List.mem_append_right _ (s b hb)⟩
/-- the owned list of slot i -/
theorem SI.olAt {xs : List OV} (I : SI K Z H σ env F) (q : env[i]? = some (some (.ol xs))) : ∃ (a : Addr) (vs : List V) (Fx : List Addr), σ[i]? = some (some (.ref a)) ∧ F i = a :: Fx ∧ Z a = none ∧ H a = some (.lst vs) ∧ vs.length ≤ sizeLine ∧ ORs K Z H vs xs Fx ∧ a ∉ Fx := by
  obtain ⟨v, ev, r⟩ := I.rep i _ q
  generalize hG : F i = G at r
  cases r with
  | ol hz ha hl rr hn => exact ⟨_, _, _, ev, rfl, hz, ha, hl, rr, hn⟩
/-- it is written anew; a value G that lay beside may have gone into it -/
theorem SI.write {a : Addr} {vs' : List V} {xs' : List OV} {Fx Fx' : List Addr} {x0 : OV} (I : SI K Z H σ env F) (s : Stp Z0 H0 F0 Z H F G) (hσ : σ[i]? = some (some (.ref a))) (q : env[i]? = some (some x0)) (hF : F i = a :: Fx) (hz : Z a = none) (hl : vs'.length ≤ sizeLine) (r : ORs K Z H vs' xs' Fx')
    (hn : a ∉ Fx) (sub : ∀ b, b ∈ Fx' → b ∈ Fx ∨ b ∈ G) : SI K Z (upd H a (.lst vs')) σ (env.set i (some (.ol xs'))) (setF F i (a :: Fx')) ∧ Stp Z0 H0 F0 Z (upd H a (.lst vs')) (setF F i (a :: Fx')) [] := by
  have hi : i < env.length := (List.getElem?_eq_some_iff.mp q).1
  have aG : a ∉ G := fun z => s.gd i a z (by rw [hF]; exact List.mem_cons_self)
  have nx : a ∉ Fx' := fun z => (sub a z).elim hn aG
  have other : ∀ j b, j ≠ i → b ∈ F j → b ≠ a := fun j b hj hb z => by
    subst z
    exact I.dis j i b hj hb (by rw [hF]; exact List.mem_cons_self)
  -- all but slot i
  have J : SI K Z (upd H a (.lst vs')) σ (env.set i none) (setF F i []) := by
    have J0 := I.gone i
    refine ⟨J0.len, fun b o e => ?_, fun j x e => ?_, J0.non, J0.dis⟩
    · rw [upd_ne fun z => by rw [z, hz] at e; cases e]; exact I.sub b o e
    · obtain ⟨v, ev, rv⟩ := J0.rep j x e
      refine ⟨v, ev, rv.mono (Same.refl _) (fun b hb => ?_) fun b hb => (rv.own b hb).1⟩
      by_cases qj : j = i
      · subst qj; rw [setF_same] at hb; cases hb
      · rw [setF_ne qj] at hb; rw [upd_ne (other j b qj hb)]
  have rr : OR K Z (upd H a (.lst vs')) (.ref a) (.ol xs') (a :: Fx') := .ol hz upd_same hl (r.mono (Same.refl _) (fun b hb => upd_ne fun z => nx (by rw [← z]; exact hb)) fun b hb => (r.own b hb).1) nx
  have J2 := J.put (i := i) (x := .ol xs') (v := .ref a) (by rw [List.length_set]; exact hi) rr fun j b hb hc => by
    by_cases qj : j = i
    · subst qj; rw [setF_same] at hc; cases hc
    · rw [setF_ne qj] at hc
      rcases List.mem_cons.mp hb with z | z
      · exact other j b qj hc z
      · rcases sub b z with y | y
        · exact I.dis i j b (Ne.symm qj) (by rw [hF]; exact List.mem_cons_of_mem _ y) hc
        · exact s.gd j b y hc
  rw [set_self hσ, List.set_set, setF_2] at J2
  refine ⟨J2, s.zz, fun b o e hnb => ?_, fun b h => ?_, s.gz, fun _ _ h => by cases h⟩
  · rw [upd_ne fun z => ?_]
    · exact s.fr b o e hnb
    · subst z
      rcases s.gr b (.inr ⟨i, by rw [hF]; exact List.mem_cons_self⟩) with ⟨m, y⟩ | y
      · exact hnb m y
      · rw [e] at y; cases y
  · rcases h with h | ⟨j, h⟩
    · cases h
    · by_cases qj : j = i
      · subst qj
        rw [setF_same] at h
        rcases List.mem_cons.mp h with z | z
        · subst z; exact s.gr b (.inr ⟨j, by rw [hF]; exact List.mem_cons_self⟩)
        · rcases sub b z with y | y
          · exact s.gr b (.inr ⟨j, by rw [hF]; exact List.mem_cons_of_mem _ y⟩)
          · exact s.gr b (.inl y)
      · rw [setF_ne qj] at h
        exact s.gr b (.inr ⟨j, h⟩)
end
def olOf (env : Env) (i : Nat) : Option (List OV) := match env[i]? with
  | some (some (.ol xs)) => some xs
  | _ => none
theorem olOf_some {env : Env} {i : Nat} {xs : List OV} (h : olOf env i = some xs) : env[i]? = some (some (.ol xs)) := by
  unfold olOf at h
  split at h
  · rename_i q; cases h; exact q
  · cases h
section
variable {S : Ctx} {own : List Nat} {e e2 a b : Expr} {es : List Expr} {pos cpos apos : Pos}
theorem few_ok {env : PySem.Env} (h : es.all notStar = true) (hl : es.length < 30) : ((backTo cpos (starEach es env)).all (fun x => !x.1) && (backToKw cpos (keywordEach [] env)).all (fun x => x.1.isSome)
      && decide (es.length + ([] : List Keyword).length + (if ([] : List Keyword).isEmpty then 0 else 1) < 30)) = true := by
  have g : ∀ es : List Expr, es.all notStar = true → (backTo cpos (starEach es env)).all (fun x => !x.1) = true := by
    intro es
    induction es with
    | nil => intro _; rfl
    | cons t ts ih =>
      intro h
      rw [List.all_cons, Bool.and_eq_true] at h
      rw [star_cons h.1]
      show (true && (backTo cpos (starEach ts env)).all (fun x => !x.1)) = true
      rw [ih h.2]; rfl
  rw [g es h]
  show (true && true && decide (es.length + 0 + 0 < 30)) = true
  rw [decide_eq_true (by omega)]
  rfl
/-! x.append(e) -/
def appM (i : Nat) (m : M OV) : M OV := fun env => match olOf env i with
  | none => .bad
  | some _ => (m env).bind fun r e1 => match olOf e1 i with
    | none => .bad
    | some xs => if xs.length < sizeLine then .ok (.fz .none) (e1.set i (some (.ol (xs ++ [r])))) else .bad
theorem sv_app {i : Nat} {x : Str} {p : Pos} {m : M OV} (n : NameOk S i x) (h : SV S e m) (hn : notStar e = true) (hl : (apos.endLine == cpos.line) = true) : SV S (.Call (.Attribute (.Name x p) "append" apos) [e] [] cpos) (appM i m) := .of fun σ env Z H F I Q mm hm k kx kb => by
  have hall : [e].all notStar = true := by rw [List.all_cons, hn]; rfl
  refine ⟨tBM S.K "list" rAppend (tVar i) (tCons (wE S e) tNil), fun X hX => by
    rw [← hX.K]
    exact pe_bm PySem.F.plainAttrs_list PySem.F.slot_list_append PySem.F.type_list_append mt_append (n.pe hX) (pa_cons (pe_w hX) pa_nil (star_cons hn)) rfl (few_ok hall (by show 1 < 30; decide)) hl (star_cons hn) rfl, ?_⟩
  unfold appM at hm
  cases q0 : olOf env i with
  | none => rw [q0] at hm; exact absurd hm kb
  | some xs0 =>
    rw [q0] at hm
    obtain ⟨a0, vs0, Fx0, hσ, _, _, ha0, _, _, _⟩ := I.olAt (olOf_some q0)
    refine ⟨.ref a0, hσ, .inl ⟨rfl, _, .inl (.inl ha0)⟩, ?_⟩
    refine h.go I hm kx kb fun r e1 v Z1 H1 F1 G _ q1 I1 r1 s1 => ?_
    cases q2 : olOf e1 i with
    | none => rw [q2] at q1; exact absurd q1 kb
    | some xs =>
      rw [q2] at q1
      have q1 : mm = (if xs.length < sizeLine then .ok (.fz .none) (e1.set i (some (.ol (xs ++ [r])))) else .bad) := q1
      split at q1
      · rename_i hlt
        obtain ⟨a, vs, Fx, hσ1, hF, hz, ha, hlv, rr, hnx⟩ := I1.olAt (olOf_some q2)
        have ea : a = a0 := by rw [hσ] at hσ1; cases hσ1; rfl
        subst ea
        have hvl : vs.length < sizeLine := by rw [rr.length]; exact hlt
        obtain ⟨I2, s2⟩ := I1.write s1 hσ (olOf_some q2) hF hz (vs' := vs ++ [v]) (by rw [List.length_append]; simp; omega) (rr.append (.one r1) fun b hb hc => by
          exact s1.gd i b hc (by rw [hF]; exact List.mem_cons_of_mem _ hb)) hnx fun b hb => List.mem_append.mp hb
        exact ⟨a, vs, v, rfl, rfl, ha, hvl, k _ _ q1 .non Z1 _ _ [] I2 (.fz .non) s2⟩
      · exact absurd q1 kb
/-! x.extend(e) -/
def extM (i : Nat) (m : M PyData) : M OV := fun env => match olOf env i with
  | none => .bad
  | some _ => (m env).bind fun d e1 => match olOf e1 i, d with
    | some xs, .list ds => if xs.length + ds.length ≤ sizeLine then .ok (.fz .none) (e1.set i (some (.ol (xs ++ ds.map .fz)))) else .bad
    | _, _ => .bad
theorem sv_ext {i : Nat} {x : Str} {p : Pos} {m : M PyData} (n : NameOk S i x) (h : SD S e m) (hn : notStar e = true) (hl : (apos.endLine == cpos.line) = true) : SV S (.Call (.Attribute (.Name x p) "extend" apos) [e] [] cpos) (extM i m) := .of fun σ env Z H F I Q mm hm k kx kb => by
  have hall : [e].all notStar = true := by rw [List.all_cons, hn]; rfl
  refine ⟨tBM S.K "list" rExtend (tVar i) (tCons (wE S e) tNil), fun X hX => by
    rw [← hX.K]
    exact pe_bm PySem.F.plainAttrs_list PySem.F.slot_list_extend PySem.F.type_list_extend mt_extend (n.pe hX) (pa_cons (pe_w hX) pa_nil (star_cons hn)) rfl (few_ok hall (by show 1 < 30; decide)) hl (star_cons hn) rfl, ?_⟩
  unfold extM at hm
  cases q0 : olOf env i with
  | none => rw [q0] at hm; exact absurd hm kb
  | some xs0 =>
    rw [q0] at hm
    obtain ⟨a0, vs0, Fx0, hσ, _, _, ha0, _, _, _⟩ := I.olAt (olOf_some q0)
    refine ⟨.ref a0, hσ, .inl ⟨rfl, _, .inl (.inl ha0)⟩, ?_⟩
    refine h.go I hm kx kb fun d e1 v Z1 H1 F1 _ q1 I1 r1 s1 => ?_
    cases q2 : olOf e1 i with
    | none => rw [q2] at q1; exact absurd q1 kb
    | some xs =>
      rw [q2] at q1
      cases r1 with
      | @lst p2 ws ds h2 l2 rw2 =>
        have q1 : mm = (if xs.length + ds.length ≤ sizeLine then .ok (.fz .none) (e1.set i (some (.ol (xs ++ ds.map .fz)))) else .bad) := q1
        split at q1
        · rename_i hlt
          obtain ⟨a, vs, Fx, hσ1, hF, hz, ha, hlv, rr, hnx⟩ := I1.olAt (olOf_some q2)
          have ea : a = a0 := by rw [hσ] at hσ1; cases hσ1; rfl
          subst ea
          have hvl : vs.length + ws.length ≤ sizeLine := by rw [rr.length, rw2.length]; exact hlt
          obtain ⟨I2, s2⟩ := I1.write s1 hσ (olOf_some q2) hF hz (vs' := vs ++ ws) (by rw [List.length_append]; exact hvl) (rr.append (ors_fz rw2) fun b hb hc => by cases hc) hnx fun b hb => .inl (by simpa using hb)
          exact ⟨a, p2, vs, ws, rfl, rfl, ha, I1.sub _ _ h2, hvl, k _ _ q1 .non Z1 _ _ [] I2 (.fz .non) s2⟩
        · exact absurd q1 kb
      | _ => exact absurd q1 kb
/-! x.pop(e), x.pop() -/
def popAtM (i : Nat) (m : M PyData) : M OV := fun env => match olOf env i with
  | none => .bad
  | some _ => (m env).bind fun d e1 => match olOf e1 i, d with
    | some xs, .int j => if -(2 ^ 63) ≤ j ∧ j < 2 ^ 63 then (match seqIndex? j xs.length with
      | some n => (match xs[n]? with
        | some (.fz d) => .ok (.fz d) (e1.set i (some (.ol (xs.eraseIdx n))))
        | _ => .bad)
      | none => .bad) else .bad
    | _, _ => .bad
theorem sv_popAt {i : Nat} {x : Str} {p : Pos} {m : M PyData} (n : NameOk S i x) (h : SD S e m) (hn : notStar e = true) (hl : (apos.endLine == cpos.line) = true) : SV S (.Call (.Attribute (.Name x p) "pop" apos) [e] [] cpos) (popAtM i m) := .of fun σ env Z H F I Q mm hm k kx kb => by
  have hall : [e].all notStar = true := by rw [List.all_cons, hn]; rfl
  refine ⟨tBM S.K "list" rPopAt (tVar i) (tCons (wE S e) tNil), fun X hX => by
    rw [← hX.K]
    exact pe_bm PySem.F.plainAttrs_list PySem.F.slot_list_pop PySem.F.type_list_pop mt_popAt (n.pe hX) (pa_cons (pe_w hX) pa_nil (star_cons hn)) rfl (few_ok hall (by show 1 < 30; decide)) hl (star_cons hn) rfl, ?_⟩
  unfold popAtM at hm
  cases q0 : olOf env i with
  | none => rw [q0] at hm; exact absurd hm kb
  | some xs0 =>
    rw [q0] at hm
    obtain ⟨a0, vs0, Fx0, hσ, _, _, ha0, _, _, _⟩ := I.olAt (olOf_some q0)
    refine ⟨.ref a0, hσ, .inl ⟨rfl, _, .inl (.inl ha0)⟩, ?_⟩
    refine h.go I hm kx kb fun d e1 v Z1 H1 F1 _ q1 I1 r1 s1 => ?_
    cases q2 : olOf e1 i with
    | none => rw [q2] at q1; exact absurd q1 kb
    | some xs =>
      rw [q2] at q1
      cases r1 with
      | int j =>
        have q1 : mm = (if -(2 ^ 63) ≤ j ∧ j < 2 ^ 63 then (match seqIndex? j xs.length with | some n => (match xs[n]? with | some (.fz d) => .ok (.fz d) (e1.set i (some (.ol (xs.eraseIdx n)))) | _ => .bad) | none => .bad) else .bad) := q1
        split at q1
        · rename_i hb
          cases qn : seqIndex? j xs.length with
          | none => rw [qn] at q1; exact absurd q1 kb
          | some n =>
            rw [qn] at q1
            cases qx : xs[n]? with
            | none => simp only [qx] at q1; exact absurd q1 kb
            | some y =>
              cases y with
              | fz d =>
                simp only [qx] at q1
                obtain ⟨a, vs, Fx, hσ1, hF, hz, ha, hlv, rr, hnx⟩ := I1.olAt (olOf_some q2)
                have ea : a = a0 := by rw [hσ] at hσ1; cases hσ1; rfl
                subst ea
                obtain ⟨w, Fw, hw, rw', _⟩ := rr.get qx
                obtain ⟨Fe, re, se⟩ := rr.erase n
                obtain ⟨I2, s2⟩ := I1.write s1 hσ (olOf_some q2) hF hz (vs' := vs.eraseIdx n) (Nat.le_trans (len_erase vs n) hlv) re hnx fun b hb => .inl (se b hb)
                refine ⟨a, vs, j, n, w, rfl, rfl, ha, hb.1, hb.2, by rw [rr.length]; exact qn, hw, ?_⟩
                cases rw' with
                | fz rd => exact k _ _ q1 w Z1 _ _ [] I2 (.fz rd) s2
              | ol _ => simp only [qx] at q1; exact absurd q1 kb
              | sc _ => simp only [qx] at q1; exact absurd q1 kb
        · exact absurd q1 kb
      | _ => exact absurd q1 kb
def popM (i : Nat) : M OV := fun env => match olOf env i with
  | none => .bad
  | some xs => match xs[xs.length - 1]? with
    | some (.fz d) => .ok (.fz d) (env.set i (some (.ol (xs.eraseIdx (xs.length - 1)))))
    | _ => .bad
theorem sv_pop {i : Nat} {x : Str} {p : Pos} (n : NameOk S i x) (hl : (apos.endLine == cpos.line) = true) : SV S (.Call (.Attribute (.Name x p) "pop" apos) [] [] cpos) (popM i) := .of fun σ env Z H F I Q mm hm k kx kb => by
  refine ⟨tBM0 S.K "list" rPop (tVar i), fun X hX => by
    rw [← hX.K]
    exact pe_bm0 PySem.F.plainAttrs_list PySem.F.slot_list_pop PySem.F.type_list_pop mt_pop (n.pe hX) rfl hl, ?_⟩
  unfold popM at hm
  cases q0 : olOf env i with
  | none => rw [q0] at hm; exact absurd hm kb
  | some xs =>
    rw [q0] at hm
    obtain ⟨a, vs, Fx, hσ, hF, hz, ha, hlv, rr, hnx⟩ := I.olAt (olOf_some q0)
    have hm : mm = (match xs[xs.length - 1]? with | some (.fz d) => .ok (.fz d) (env.set i (some (.ol (xs.eraseIdx (xs.length - 1))))) | _ => .bad) := hm
    cases qx : xs[xs.length - 1]? with
    | none => simp only [qx] at hm; exact absurd hm kb
    | some y =>
      cases y with
      | fz d =>
        simp only [qx] at hm
        obtain ⟨w, Fw, hw, rw', _⟩ := rr.get qx
        obtain ⟨Fe, re, se⟩ := rr.erase (xs.length - 1)
        have hdl : vs.dropLast = vs.eraseIdx (xs.length - 1) := by rw [← rr.length, List.eraseIdx_length_sub_one]
        obtain ⟨I2, s2⟩ := I.write (Stp.refl (Z := Z) (H := H) (F := F)) hσ (olOf_some q0) hF hz (vs' := vs.eraseIdx (xs.length - 1)) (Nat.le_trans (len_erase vs _) hlv) re hnx fun b hb => .inl (se b hb)
        refine ⟨.ref a, hσ, .inl ⟨rfl, _, .inl (.inl ha)⟩, a, vs, w, rfl, rfl, ha, by rw [rr.length]; exact hw, ?_⟩
        rw [hdl]
        cases rw' with
        | fz rd => exact k _ _ hm w Z _ _ [] I2 (.fz rd) s2
      | ol _ => simp only [qx] at hm; exact absurd hm kb
      | sc _ => simp only [qx] at hm; exact absurd hm kb
/-! x[i] = e -/
def setM (j : Nat) (mi me : M PyData) : MS := fun env => (me env).so fun d e1 => match olOf e1 j with
  | none => .bad
  | some _ => (mi e1).so fun di e2 => match olOf e2 j, di with
    | some xs, .int k => (match ixN xs.length k with
      | some n => .nx (e2.set j (some (.ol (xs.set n (.fz d)))))
      | none => .bad)
    | _, _ => .bad
theorem noSwapS {l : Nat} {o i : Expr} {p : Pos} {env : PySem.Env} : swapsWith e (some (.Subscript o i p)) l env = pure false := by
  unfold swapsWith
  cases e <;> rfl
theorem plainAsg {o i : Expr} {env : PySem.Env} {p : Pos} (h : ∀ l u st p, i ≠ .Slice l u st p) : ∀ v, assign (.Subscript o i p) env v = (do
      let ov ← holding [v] (PySem.eval o env)
      let iv ← holding [v, ov] (PySem.eval i env)
      standAt p
      holding [v, ov, iv] (setItem ov iv v)
      release [v, ov, iv] []) := fun v => by
  cases i <;> first | rfl | exact absurd rfl (h _ _ _ _)
theorem ss_set {j : Nat} {x : Str} {p tpos : Pos} {mi me : M PyData} (n : NameOk S j x) (hi : SD S a mi) (he : SD S e me) (hs : ∀ l u st p, a ≠ .Slice l u st p) : SS S own (.Assign [.Subscript (.Name x p) a tpos] e pos) (setM j mi me) := fun σ env Z H F I D w => by
  refine ⟨tAsg (wE S e) (gSub (tVar j) (wE S a) rSetL), fun X hX => ps_asg (pe_w hX) (pg_sub (n.pe hX) (pe_w hX) set_list (plainAsg hs)) (by show swapsWith e (some (.Subscript (.Name x p) a tpos)) pos.line X.env = pure false; exact noSwapS) (by cases e <;> rfl) rfl, ?_⟩
  refine he.so I w rfl fun d e1 v Z1 H1 F1 _ q1 I1 r1 s1 => ?_
  cases q0 : olOf e1 j with
  | none => rw [q0] at q1; exact absurd q1 w.nb
  | some xs0 =>
    rw [q0] at q1
    obtain ⟨a0, vs0, Fx0, hσ, _⟩ := I1.olAt (olOf_some q0)
    refine ⟨.ref a0, hσ, ?_⟩
    have w1 := (w.step s1 .refl).eq q1
    refine hi.so I1 w1 rfl fun di e2 vi Z2 H2 F2 _ q2 I2 r2 s2 => ?_
    cases q3 : olOf e2 j with
    | none => rw [q3] at q2; exact absurd q2 w1.nb
    | some xs =>
      rw [q3] at q2
      cases r2 with
      | int kk =>
        cases qn : ixN xs.length kk with
        | none => simp only [qn] at q2; exact absurd q2 w1.nb
        | some nn =>
          simp only [qn] at q2
          obtain ⟨b0, vs, Fx, hσ1, hF, hz, ha, hlv, rr, hnx⟩ := I2.olAt (olOf_some q3)
          have ea : b0 = a0 := by rw [hσ] at hσ1; cases hσ1; rfl
          subst ea
          obtain ⟨Fe, re, se⟩ := ORs.set (r1.mono s2.zz) nn rr
          obtain ⟨I3, s3⟩ := I2.write s2 hσ (olOf_some q3) hF hz (vs' := vs.set nn v) (by rw [List.length_set]; exact hlv) re hnx fun b hb => .inl (se b hb)
          exact ⟨b0, vs, kk, nn, rfl, rfl, ha, by rw [rr.length]; exact qn, (w1.nx _ q2 σ Z2 _ _ I3 s3 .refl)⟩
      | _ => exact absurd q2 w1.nb
/-! x[i] op= e -/
def rGetL (K : PySem.W.Frag) : V → V → Hp → VK → Prop := fun o i H Q => ∃ p xs k v, o = .ref p ∧ i = .int k ∧ SqL K H p xs ∧ atI xs k = some v ∧ Q v H
theorem get_list {X : Cx} : PGet X (rGetL X.K) := by
  intro pins s σ H o i ov iv Q I ro ri h
  obtain ⟨p, xs, k, z, rfl, rfl, hq, he, q⟩ := h
  cases ro
  obtain ⟨t, rfl⟩ := ri
  obtain ⟨its, r, pl, hz⟩ := I.list hq
  obtain ⟨j, h1, h2, h3, h4, h5⟩ := atI_get he
  obtain ⟨w, ew, rw'⟩ := r.get h2
  have hl := r.length
  have hn := line63
  have fin : EP X pins σ Q w s := ⟨z, H, I, rw', q⟩
  by_cases h0 : 0 ≤ k
  · have hj : k.toNat = j := by
      rw [seqIndex_of h0 h5] at h1
      exact Option.some.inj h1
    exact wpAny_getItem_list pl.isList h0 (by omega) (by rw [hj]; simpa using ew) fin
  · have hj : (k + (its.toArray.size : Int)).toNat = j := by
      rw [seqIndex_neg (by omega) h4] at h1
      rw [List.size_toArray, ← hl]
      exact Option.some.inj h1
    exact wpAny_getItem_list_neg pl.isList (by omega) (by rw [List.size_toArray] <;> omega) (by omega) (by rw [hj]; simpa using ew) fin
/-- op= of two data -/
def iopD (op : Operator) (a b : PyData) : Option PyData := match op, a, b with
  | .Add, .int i, .int j => some (.int (i + j))
  | .Sub, .int i, .int j => some (.int (i - j))
  | .Add, .str i, .str j => if i.length + j.length ≤ sizeLine then some (.str (i ++ j)) else none
  | _, _, _ => none
def wIp (S : Ctx) (op : Operator) : TIp := fun x y H Q => ∃ t : TIp, (∀ X, S.has X → PIp X op t) ∧ t x y H Q
theorem pip_w {op : Operator} {X : Cx} (h : S.has X) : PIp X op (wIp S op) := fun pins s σ H x y v u Q I rx ry ⟨r, p, q⟩ => p X h pins s σ H x y v u Q I rx ry q
theorem iop_ok {op : Operator} {Z H : Hp} {x y : V} {dx dy d : PyData} {Q : VK} (rx : Rp Z x dx) (ry : Rp Z y dy) (h : iopD op dx dy = some d) (k : ∀ v, Rp Z v d → Q v H) : wIp S op x y H Q := by
  cases op with
  | Add =>
    cases rx with
    | int i => cases ry with
      | int j => cases h; exact ⟨_, fun X hX => iop_add, i, j, rfl, rfl, k _ (.int _)⟩
      | _ => cases h
    | str i hi => cases ry with
      | str j hj =>
        simp only [iopD] at h
        split at h
        · rename_i hl
          cases h
          exact ⟨_, fun X hX => iop_add_str, i, j, rfl, rfl, hl, k _ (.str _ (hi.append hj hl))⟩
        · cases h
      | _ => cases h
    | _ => cases ry <;> cases h
  | Sub =>
    cases rx with
    | int i => cases ry with
      | int j => cases h; exact ⟨_, fun X hX => iop_sub, i, j, rfl, rfl, k _ (.int _)⟩
      | _ => cases h
    | _ => cases ry <;> cases h
  | _ => cases rx <;> cases ry <;> cases h
def augSM (j : Nat) (op : Operator) (mi me : M PyData) : MS := fun env => match olOf env j with
  | none => .bad
  | some _ => (mi env).so fun di e1 => match olOf e1 j, di with
    | some xs, .int k => (match atI xs k with
      | some (.fz old) => (me e1).so fun d e2 => (match iopD op old d, olOf e2 j with
        | some z, some ys => (match ixN ys.length k with
          | some n => .nx (e2.set j (some (.ol (ys.set n (.fz z)))))
          | none => .bad)
        | _, _ => .bad)
      | _ => .bad)
    | _, _ => .bad
theorem atI_ors {K : PySem.W.Frag} {Z H : Hp} {vs : List V} {xs : List OV} {Fx : List Addr} {i : Int} {x : OV} (r : ORs K Z H vs xs Fx) (h : atI xs i = some x) : ∃ v F', atI vs i = some v ∧ OR K Z H v x F' ∧ ∀ b, b ∈ F' → b ∈ Fx := by
  unfold atI at h ⊢
  rw [r.length]
  cases q : ixN xs.length i with
  | none => rw [q] at h; cases h
  | some j =>
    rw [q] at h
    exact r.get h
theorem plainAug {i : Expr} (h : ∀ l u st p, i ≠ .Slice l u st p) : ∀ ov iv new, augStore i ov iv new = (do holding [new, ov, iv] (setItem ov iv new); release [new, ov, iv] []; pure .next) := fun ov iv new => by
  cases i <;> first | rfl | exact absurd rfl (h _ _ _ _)
theorem ss_augS {j : Nat} {op : Operator} {x : Str} {p tpos : Pos} {mi me : M PyData} (n : NameOk S j x) (hi : SD S a mi) (he : SD S e me) (hs : ∀ l u st p, a ≠ .Slice l u st p) : SS S own (.AugAssign (.Subscript (.Name x p) a tpos) op e pos) (augSM j op mi me) := fun σ env Z H F I D w => by
  refine ⟨tAugS (tVar j) (wE S a) (wE S e) (rGetL S.K) (wIp S op) rSetL, fun X hX => by
    rw [← hX.K]
    exact ps_augS (n.pe hX) (pe_w hX) get_list (pe_w hX) (pip_w hX) set_list (plainAug hs), ?_⟩
  obtain ⟨mm, hmm⟩ : ∃ mm, mm = augSM j op mi me env := ⟨_, rfl⟩
  rw [← hmm] at w
  unfold augSM at hmm
  cases q0 : olOf env j with
  | none => rw [q0] at hmm; exact absurd hmm w.nb
  | some xs0 =>
    rw [q0] at hmm
    obtain ⟨a0, vs0, Fx0, hσ, _⟩ := I.olAt (olOf_some q0)
    refine ⟨.ref a0, hσ, ?_⟩
    refine hi.so I w hmm fun di e1 vi Z1 H1 F1 _ q1 I1 r1 s1 => ?_
    cases q2 : olOf e1 j with
    | none => rw [q2] at q1; exact absurd q1 w.nb
    | some xs =>
      rw [q2] at q1
      cases r1 with
      | int kk =>
        cases qa : atI xs kk with
        | none => simp only [qa] at q1; exact absurd q1 w.nb
        | some y =>
          cases y with
          | fz old =>
            simp only [qa] at q1
            obtain ⟨b0, vs, Fx, hσ1, hF, hz, ha, hlv, rr, hnx⟩ := I1.olAt (olOf_some q2)
            have ea : b0 = a0 := by rw [hσ] at hσ1; cases hσ1; rfl
            subst ea
            obtain ⟨vo, Fo, ho, ro, _⟩ := atI_ors rr qa
            refine ⟨b0, vs, kk, vo, rfl, rfl, .inl (.inl ha), ho, ?_⟩
            have w1 := (w.step s1 .refl).eq q1
            refine he.so I1 w1 rfl fun d e2 v Z2 H2 F2 _ q3 I2 r2 s2 => ?_
            cases qi : iopD op old d with
            | none => simp only [qi] at q3; exact absurd q3 w1.nb
            | some z =>
              cases q4 : olOf e2 j with
              | none => simp only [qi, q4] at q3; exact absurd q3 w1.nb
              | some ys =>
                simp only [qi, q4] at q3
                cases qn : ixN ys.length kk with
                | none => simp only [qn] at q3; exact absurd q3 w1.nb
                | some nn =>
                  simp only [qn] at q3
                  cases ro with
                  | fz rold =>
                    refine iop_ok (rold.mono s2.zz) r2 qi fun vz rz => ?_
                    obtain ⟨c0, ws, Fy, hσ2, hF2, hz2, ha2, hlv2, rr2, hnx2⟩ := I2.olAt (olOf_some q4)
                    have ec : c0 = b0 := by rw [hσ] at hσ2; cases hσ2; rfl
                    subst ec
                    obtain ⟨Fe, re, se⟩ := ORs.set rz nn rr2
                    obtain ⟨I3, s3⟩ := I2.write s2 hσ (olOf_some q4) hF2 hz2 (vs' := ws.set nn vz) (by rw [List.length_set]; exact hlv2) re hnx2 fun b hb => .inl (se b hb)
                    exact ⟨c0, ws, kk, nn, rfl, rfl, ha2, by rw [rr2.length]; exact qn, w1.nx _ q3 σ Z2 _ _ I3 s3 .refl⟩
          | ol _ => simp only [qa] at q1; exact absurd q1 w.nb
          | sc _ => simp only [qa] at q1; exact absurd q1 w.nb
      | _ => exact absurd q1 w.nb
/-! x op= e -/
def augM (own : List Nat) (i : Nat) (op : Operator) (me : M PyData) : MS := fun env => if own.contains i = true then .bad else match env[i]? with
  | some (some (.fz old)) => (me env).so fun d e1 => (match iopD op old d with
    | some z => if i < e1.length then .nx (e1.set i (some (.fz z))) else .bad
    | none => .bad)
  | _ => .bad
theorem ss_aug {i : Nat} {op : Operator} {x : Str} {p : Pos} {me : M PyData} (n : StoOk S i x) (he : SD S e me) : SS S own (.AugAssign (.Name x p) op e pos) (augM own i op me) := fun σ env Z H F I D w => by
  refine ⟨tAug i (wE S e) (wIp S op), fun X hX => ps_aug (by rw [hX.N]; exact n.nd) (by rw [hX.N]; exact n.at_) (by rw [hX.scope]; exact n.loc) (pe_w hX) (pip_w hX) (by rw [hX.fn, hX.scope]; exact n.fn), ?_⟩
  obtain ⟨mm, hmm⟩ : ∃ mm, mm = augM own i op me env := ⟨_, rfl⟩
  rw [← hmm] at w
  unfold augM at hmm
  split at hmm
  · exact absurd hmm w.nb
  · rename_i ho
    have ho : own.contains i = false := by simpa using ho
    cases q0 : env[i]? with
    | none => simp only [q0] at hmm; exact absurd hmm w.nb
    | some o =>
      cases o with
      | none => simp only [q0] at hmm; exact absurd hmm w.nb
      | some y =>
        cases y with
        | fz old =>
          simp only [q0] at hmm
          obtain ⟨v0, ev, r0⟩ := I.rep i _ q0
          refine ⟨v0, ev, he.so I w hmm fun d e1 v Z1 H1 F1 _ q1 I1 r1 s1 => ?_⟩
          cases qi : iopD op old d with
          | none => rw [qi] at q1; exact absurd q1 w.nb
          | some z =>
            rw [qi] at q1
            have q1 : mm = (if i < e1.length then .nx (e1.set i (some (.fz z))) else .bad) := q1
            split at q1
            · rename_i hi
              generalize hG : F i = G0 at r0
              cases r0 with
              | fz rold =>
                refine iop_ok (rold.mono s1.zz) r1 qi fun vz rz => ?_
                exact w.nx _ q1 _ Z1 H1 _ (I1.put hi (.fz rz) fun _ _ z => by cases z) (s1.trans0 set_stp) (kp_set ho)
            · exact absurd q1 w.nb
        | ol _ => simp only [q0] at hmm; exact absurd hmm w.nb
        | sc _ => simp only [q0] at hmm; exact absurd hmm w.nb
end

/-! ### a def -/
def outsR : List OV → Env → Env
  | [], _ => []
  | o :: os, e :: env => (if lent o = true then e else none) :: outsR os env
  | _ :: os, [] => none :: outsR os []
def lentOk (own : List Nat) : List OV → Nat → Bool
  | [], _ => true
  | o :: os, i => (!lent o || own.contains i) && lentOk own os (i + 1)
def runB (np nv : Nat) (own : List Nat) (m : MS) : Den := fun ovs => if ovs.length = np ∧ np ≤ nv ∧ lentOk own ovs 0 = true then (match m (ovs.map some ++ List.replicate (nv - np) none) with
    | .ret r env => .ok r (outsR ovs env)
    | .nx env => .ok (.fz .none) (outsR ovs env)
    | .ex x env => .ex x (outsR ovs env)
    | .bad => .bad) else .bad
theorem lentOk_at {own : List Nat} : ∀ {os : List OV} {k i : Nat} {o : OV}, lentOk own os k = true → os[i]? = some o → lent o = true → (k + i) ∈ own
  | o' :: os, k, 0, o, h, e, hl => by
    have e : o' = o := by simpa using e
    subst e
    unfold lentOk at h
    rw [Bool.and_eq_true, hl] at h
    have := h.1
    simp at this
    exact this
  | o' :: os, k, i + 1, o, h, e, hl => by
    unfold lentOk at h
    rw [Bool.and_eq_true] at h
    have := lentOk_at (i := i) h.2 (by simpa using e) hl
    rw [show k + (i + 1) = k + 1 + i by omega]
    exact this
theorem outsR_len : ∀ (os : List OV) (env : Env), (outsR os env).length = os.length
  | [], _ => rfl
  | o :: os, e :: env => by simp [outsR, outsR_len os env]
  | o :: os, [] => by simp [outsR, outsR_len os []]
theorem outsR_at : ∀ {os : List OV} {env : Env} {i : Nat} {x : OV}, (outsR os env)[i]? = some (some x) → env[i]? = some (some x) ∧ ∃ o, os[i]? = some o ∧ lent o = true
  | o :: os, e :: env, 0, x, h => by
    unfold outsR at h
    by_cases q : lent o = true
    · rw [if_pos q] at h; exact ⟨by simpa using h, o, rfl, q⟩
    · rw [if_neg q] at h; simp at h
  | o :: os, e :: env, i + 1, x, h => by
    have := outsR_at (os := os) (env := env) (i := i) (x := x) (by simpa [outsR] using h)
    exact ⟨by simpa using this.1, by simpa using this.2⟩
  | o :: os, [], 0, x, h => by simp [outsR] at h
  | o :: os, [], i + 1, x, h => by
    have := outsR_at (os := os) (env := []) (i := i) (x := x) (by simpa [outsR] using h)
    simp at this
  | [], env, i, x, h => by simp [outsR] at h
theorem SI.padN {K : PySem.W.Frag} {Z H : Hp} {σ : St} {env : Env} {F : Fp} (I : SI K Z H σ env F) (n : Nat) : SI K Z H (σ ++ List.replicate n none) (env ++ List.replicate n none) F := by
  refine ⟨by simp [I.len], I.sub, fun i x e => ?_, fun i h => ?_, I.dis⟩
  · by_cases hi : i < env.length
    · rw [List.getElem?_append_left hi] at e
      obtain ⟨v, e1, r⟩ := I.rep i x e
      exact ⟨v, by rw [List.getElem?_append_left (by rw [I.len]; exact hi)]; exact e1, r⟩
    · rw [List.getElem?_append_right (by omega), List.getElem?_replicate] at e
      split at e <;> cases e
  · refine I.non i fun x e => h x ?_
    rw [List.getElem?_append_left (List.getElem?_eq_some_iff.mp e).1]
    exact e
/-- the parameters' slots behind the body -/
theorem SI.outs {K : PySem.W.Frag} {Z H : Hp} {σ' : St} {env' : Env} {F' : Fp} {vs : List V} {ovs : List OV} {own : List Nat} (I : SI K Z H σ' env' F') (hl : vs.length = ovs.length) (ho : lentOk own ovs 0 = true) (hk : ∀ i, i ∈ own → ∀ v, vs[i]? = some v → σ'[i]? = some (some v)) :
    ∃ F'' : Fp, SI K Z H (vs.map some) (outsR ovs env') F'' ∧ ∀ i b, b ∈ F'' i → b ∈ F' i := by
  refine ⟨fun i => match (outsR ovs env')[i]? with | some (some _) => F' i | _ => [], ⟨by rw [List.length_map, outsR_len, hl], I.sub, fun i x e => ?_, fun i h => ?_, fun i j b hij hb => ?_⟩, fun i b hb => ?_⟩
  · obtain ⟨e1, o, e2, e3⟩ := outsR_at e
    obtain ⟨v', ev, r⟩ := I.rep i x e1
    have hi : i < vs.length := by rw [hl]; exact (List.getElem?_eq_some_iff.mp e2).1
    have hv : vs[i]? = some vs[i] := List.getElem?_eq_getElem hi
    have h0 := hk i (by have := lentOk_at ho e2 e3; simpa using this) _ hv
    rw [h0] at ev
    cases ev
    refine ⟨vs[i], by rw [List.getElem?_map, hv]; rfl, ?_⟩
    simp only [e]
    exact r
  · show (match (outsR ovs env')[i]? with | some (some _) => F' i | _ => []) = []
    cases q : (outsR ovs env')[i]? with
    | none => rfl
    | some o =>
      cases o with
      | none => rfl
      | some x => exact absurd q (h x)
  · have g : ∀ i, b ∈ (match (outsR ovs env')[i]? with | some (some _) => F' i | _ => []) → b ∈ F' i := fun i hb => by
      cases q : (outsR ovs env')[i]? with
      | none => rw [q] at hb; cases hb
      | some o =>
        cases o with
        | none => rw [q] at hb; cases hb
        | some x => rw [q] at hb; exact hb
    exact fun hc => I.dis i j b hij (g i hb) (g j hc)
  · cases q : (outsR ovs env')[i]? with
    | none => simp only [q] at hb; cases hb
    | some o =>
      cases o with
      | none => simp only [q] at hb; cases hb
      | some x => simp only [q] at hb; exact hb
theorem Stp.outs {Z H Z' H' : Hp} {F F' F'' : Fp} {G : List Addr} (s : Stp Z H F Z' H' F' G) (h : ∀ i b, b ∈ F'' i → b ∈ F' i) : Stp Z H F Z' H' F'' G :=
  ⟨s.zz, s.fr, fun b hb => s.gr b (hb.imp id fun ⟨i, z⟩ => ⟨i, h i b z⟩), s.gz, fun i b hb hc => s.gd i b hb (h i b hc)⟩
section
variable {P : Program} {w : World} {K : PySem.W.Frag} {mg : Str → Option Value} {base : Heap} {exr : Exn → Value → Option Addr → Hp → Prop}
/-- the context of a def's body -/
def ctxOf (P : Program) (w : World) (K : PySem.W.Frag) (mg : Str → Option Value) (base : Heap) (exr : Exn → Value → Option Addr → Hp → Prop) (N : List Str) (scope : Scope) (k : Nat) (E : XK) : Ctx :=
  ⟨P, w, K, mg, base, N, scope, fun _ => true, k, fun cls d _ H => E cls d H, exr⟩
theorem fn_ok {x qual : Str} {st : Stmt} {f : Addr} {fd : FuncData} {N ps : List Str} {k nv : Nat} {own : List Nat} {m : MS} (Fn : Fun K x qual st f fd) (Sc : FnScope N ps (defScope st)) (hnv : nv = N.length)
    (hb : ∀ E : XK, SSs (ctxOf P w K mg base exr N (defScope st) k E) own (defBody st) m) : FnOk P w K mg base (L2.CX P w) (k + 1) f fd ps (spOf K exr ps.length (runB ps.length nv own m)) := by
  refine Fn.okX Sc (fun vs H Q E h => h.1) fun cdv A outer s H vs Q E hr h => ?_
  obtain ⟨hl, Z, ovs, F, I, kok, kex, knb⟩ := h
  have hlo : vs.length = ovs.length := by have := I.len; simpa using this
  unfold runB at kok kex knb
  by_cases hc : ovs.length = ps.length ∧ ps.length ≤ nv ∧ lentOk own ovs 0 = true
  · simp only [if_pos hc] at kok kex knb
    have hS : (ctxOf P w K mg base exr N (defScope st) k E).has (cxOf (L2.CX P w) P w K mg base N qual (defScope st) f cdv A outer s H E) :=
      ⟨rfl, rfl, rfl, rfl, rfl, rfl, rfl, rfl, rfl, hr, passes_of rfl, takes_of rfl rfl rfl rfl⟩
    have I0 := I.padN (nv - ps.length)
    have est : L2.start N vs = vs.map some ++ List.replicate (nv - ps.length) none := by unfold L2.start; rw [hnv, hl]
    have keep : ∀ {σ' : St}, Kp own (vs.map some ++ List.replicate (nv - ps.length) none) σ' → ∀ i, i ∈ own → ∀ v, vs[i]? = some v → σ'[i]? = some (some v) := fun {σ'} kp i hi v hv => by
      have hlt : i < (vs.map some).length := by rw [List.length_map]; exact (List.getElem?_eq_some_iff.mp hv).1
      rw [kp i hi, List.getElem?_append_left hlt, List.getElem?_map, hv]; rfl
    refine ⟨wSs _ (defBody st), pss_w hS, ?_⟩
    rw [est]
    refine hb E _ _ Z H F I0 _ ⟨fun env' q σ' Z' H' F' I' s' kp => ?_, fun r env' q v σ' Z' H' F' G I' o' s' kp => ?_, fun x env' q σ' Z' H' F' cls d I' s' kp hx => ?_, fun q => ?_⟩
    · obtain ⟨F'', Io, hsub⟩ := I'.outs hlo hc.2.2 (keep kp)
      exact kok (.fz .none) _ (by rw [q]) .non Z' H' F'' [] Io (.fz .non) (s'.outs hsub)
    · obtain ⟨F'', Io, hsub⟩ := I'.outs hlo hc.2.2 (keep kp)
      exact kok r _ (by rw [q]) v Z' H' F'' G Io o' (s'.outs hsub)
    · obtain ⟨F'', Io, hsub⟩ := I'.outs hlo hc.2.2 (keep kp)
      exact kex x _ (by rw [q]) Z' H' F'' cls d Io (s'.outs hsub) hx
    · exact knb (by rw [q])
  · rw [if_neg hc] at knb
    exact absurd rfl knb
end
end Vi

set_option Elab.async false
set_option linter.all false
set_option maxRecDepth 100000
namespace Vi
open PySem L2

/-! ### lists of numbers, truth values, texts -/
def intsOf : List PyData → Option (List Int)
  | [] => some []
  | .int i :: r => (intsOf r).map (i :: ·)
  | _ :: _ => none
def bolsOf : List PyData → Option (List Bool)
  | [] => some []
  | .bool i :: r => (bolsOf r).map (i :: ·)
  | _ :: _ => none
def strsOf : List PyData → Option (List Str)
  | [] => some []
  | .str i :: r => (strsOf r).map (i :: ·)
  | _ :: _ => none
theorem rps_ints {H : Hp} : ∀ {vs : List V} {ds : List PyData} {ns : List Int}, Rps H vs ds → intsOf ds = some ns → vs = ns.map V.int ∧ ds = ns.map PyData.int
  | _, _, _, .nil, h => by cases h; exact ⟨rfl, rfl⟩
  | _, d :: ds, _, .cons r t, h => by
    cases r with
    | int i =>
      have h : (intsOf ds).map (i :: ·) = some _ := h
      cases q : intsOf ds with
      | none => rw [q] at h; cases h
      | some ms =>
        rw [q] at h; cases h
        obtain ⟨e1, e2⟩ := rps_ints t q
        exact ⟨by rw [e1]; rfl, by rw [e2]; rfl⟩
    | _ => cases h
theorem rps_bols {H : Hp} : ∀ {vs : List V} {ds : List PyData} {ns : List Bool}, Rps H vs ds → bolsOf ds = some ns → vs = ns.map V.bl
  | _, _, _, .nil, h => by cases h; rfl
  | _, d :: ds, _, .cons r t, h => by
    cases r with
    | bl i =>
      have h : (bolsOf ds).map (i :: ·) = some _ := h
      cases q : bolsOf ds with
      | none => rw [q] at h; cases h
      | some ms => rw [q] at h; cases h; rw [rps_bols t q]; rfl
    | _ => cases h
theorem rps_strs {H : Hp} : ∀ {vs : List V} {ds : List PyData} {ns : List Str}, Rps H vs ds → strsOf ds = some ns → vs = ns.map V.str ∧ ∀ x ∈ ns, StrG x
  | _, _, _, .nil, h => by cases h; exact ⟨rfl, fun x z => by cases z⟩
  | _, d :: ds, _, .cons r t, h => by
    cases r with
    | str i g =>
      have h : (strsOf ds).map (i :: ·) = some _ := h
      cases q : strsOf ds with
      | none => rw [q] at h; cases h
      | some ms =>
        rw [q] at h; cases h
        obtain ⟨e1, e2⟩ := rps_strs t q
        refine ⟨by rw [e1]; rfl, fun x hx => ?_⟩
        rcases List.mem_cons.mp hx with z | z
        · rw [z]; exact g
        · exact e2 x z
    | _ => cases h
theorem ints_rps {H : Hp} : ∀ ns : List Int, Rps H (ns.map V.int) (ns.map PyData.int)
  | [] => .nil
  | i :: ns => .cons (.int i) (ints_rps ns)
theorem strs_rps {H : Hp} : ∀ ns : List Str, (∀ x ∈ ns, StrG x) → Rps H (ns.map V.str) (ns.map PyData.str)
  | [], _ => .nil
  | i :: ns, h => .cons (.str i (h i List.mem_cons_self)) (strs_rps ns fun x hx => h x (List.mem_cons_of_mem _ hx))
/-! sorting -/
def insI (x : Int) : List Int → List Int
  | [] => [x]
  | y :: r => if x ≤ y then x :: y :: r else y :: insI x r
def isortI : List Int → List Int
  | [] => []
  | x :: r => insI x (isortI r)
theorem insI_perm (x : Int) : ∀ l : List Int, (insI x l).Perm (x :: l)
  | [] => .refl _
  | y :: r => by
    unfold insI
    split
    · exact .refl _
    · exact ((insI_perm x r).cons y).trans (.swap x y r)
theorem isortI_perm : ∀ l : List Int, (isortI l).Perm l
  | [] => .refl _
  | x :: r => (insI_perm x (isortI r)).trans ((isortI_perm r).cons x)
theorem insI_sorted (x : Int) : ∀ {l : List Int}, l.Pairwise (· ≤ ·) → (insI x l).Pairwise (· ≤ ·)
  | [], _ => by unfold insI; exact List.pairwise_singleton _ _
  | y :: r, h => by
    unfold insI
    rw [List.pairwise_cons] at h
    split
    · rename_i hxy
      refine List.pairwise_cons.mpr ⟨fun z hz => ?_, List.pairwise_cons.mpr h⟩
      rcases List.mem_cons.mp hz with e | e
      · subst e; exact hxy
      · exact Int.le_trans hxy (h.1 z e)
    · rename_i hxy
      refine List.pairwise_cons.mpr ⟨fun z hz => ?_, insI_sorted x h.2⟩
      rcases List.mem_cons.mp ((insI_perm x r).mem_iff.mp hz) with e | e
      · subst e; omega
      · exact h.1 z e
theorem isortI_sorted : ∀ l : List Int, (isortI l).Pairwise (· ≤ ·)
  | [] => .nil
  | x :: r => insI_sorted x (isortI_sorted r)
theorem sortedI_unique {l m : List Int} (p : l.Perm m) (hl : l.Pairwise (· ≤ ·)) (hm : m.Pairwise (· ≤ ·)) : l = m := by
  refine p.eq_of_pairwise (le := (· ≤ ·)) (fun a b _ _ h1 h2 => Int.le_antisymm h1 h2) hl hm
/-- texts by their signs -/
def leS (x y : Str) : Bool := !decide (y.cps.toList < x.cps.toList)
def insS (x : Str) : List Str → List Str
  | [] => [x]
  | y :: r => if leS x y = true then x :: y :: r else y :: insS x r
def isortS : List Str → List Str
  | [] => []
  | x :: r => insS x (isortS r)
theorem insS_perm (x : Str) : ∀ l : List Str, (insS x l).Perm (x :: l)
  | [] => .refl _
  | y :: r => by
    unfold insS
    split
    · exact .refl _
    · exact ((insS_perm x r).cons y).trans (.swap x y r)
theorem isortS_perm : ∀ l : List Str, (isortS l).Perm l
  | [] => .refl _
  | x :: r => (insS_perm x (isortS r)).trans ((isortS_perm r).cons x)
theorem leS_iff {x y : Str} : leS x y = true ↔ x.cps.toList ≤ y.cps.toList := by
  unfold leS
  simp only [Bool.not_eq_true', decide_eq_false_iff_not]
  exact List.not_lt
theorem leS_total {x y : Str} (h : ¬ leS x y = true) : leS y x = true := by
  rw [leS_iff] at h ⊢
  exact (List.le_total _ _).resolve_left h
theorem leS_trans {x y z : Str} (h1 : leS x y = true) (h2 : leS y z = true) : leS x z = true := by
  rw [leS_iff] at *
  exact List.le_trans h1 h2
theorem leS_antisymm {x y : Str} (h1 : leS x y = true) (h2 : leS y x = true) : x = y := by
  rw [leS_iff] at *
  have := List.le_antisymm h1 h2
  cases x; cases y
  exact congrArg Str.mk (by simpa using congrArg List.toArray this)
theorem insS_sorted (x : Str) : ∀ {l : List Str}, l.Pairwise (fun a b => leS a b = true) → (insS x l).Pairwise (fun a b => leS a b = true)
  | [], _ => by unfold insS; exact List.pairwise_singleton _ _
  | y :: r, h => by
    unfold insS
    rw [List.pairwise_cons] at h
    split
    · rename_i hxy
      refine List.pairwise_cons.mpr ⟨fun z hz => ?_, List.pairwise_cons.mpr h⟩
      rcases List.mem_cons.mp hz with e | e
      · subst e; exact hxy
      · exact leS_trans hxy (h.1 z e)
    · rename_i hxy
      refine List.pairwise_cons.mpr ⟨fun z hz => ?_, insS_sorted x h.2⟩
      rcases List.mem_cons.mp ((insS_perm x r).mem_iff.mp hz) with e | e
      · subst e; exact leS_total hxy
      · exact h.1 z e
theorem isortS_sorted : ∀ l : List Str, (isortS l).Pairwise (fun a b => leS a b = true)
  | [] => .nil
  | x :: r => insS_sorted x (isortS_sorted r)
theorem sortedS_unique {l m : List Str} (p : l.Perm m) (hl : l.Pairwise (fun a b => leS a b = true)) (hm : m.Pairwise (fun a b => leS a b = true)) : l = m :=
  p.eq_of_pairwise (le := fun a b => leS a b = true) (fun a b _ _ h1 h2 => leS_antisymm h1 h2) hl hm
/-! the greatest, the least -/
def maxI : List Int → Option Int
  | [] => none
  | x :: r => some (r.foldl (fun a b => if b > a then b else a) x)
def minI : List Int → Option Int
  | [] => none
  | x :: r => some (r.foldl (fun a b => if b < a then b else a) x)
theorem maxI_spec : ∀ (r : List Int) (x : Int), (r.foldl (fun a b => if b > a then b else a) x) ∈ x :: r ∧ ∀ y ∈ x :: r, y ≤ r.foldl (fun a b => if b > a then b else a) x
  | [], x => ⟨by simp, fun y hy => by simp at hy; subst hy; exact Int.le_refl _⟩
  | z :: r, x => by
    obtain ⟨h1, h2⟩ := maxI_spec r (if z > x then z else x)
    rw [List.foldl_cons]
    refine ⟨?_, fun y hy => ?_⟩
    · rcases List.mem_cons.mp h1 with e | e
      · rw [e]; split <;> simp
      · exact List.mem_cons_of_mem _ (List.mem_cons_of_mem _ e)
    · have h0 := h2 _ List.mem_cons_self
      rcases List.mem_cons.mp hy with e | e
      · subst e; refine Int.le_trans ?_ h0; split <;> omega
      · rcases List.mem_cons.mp e with e | e
        · subst e; refine Int.le_trans ?_ h0; split <;> omega
        · exact h2 y (List.mem_cons_of_mem _ e)
theorem minI_spec : ∀ (r : List Int) (x : Int), (r.foldl (fun a b => if b < a then b else a) x) ∈ x :: r ∧ ∀ y ∈ x :: r, r.foldl (fun a b => if b < a then b else a) x ≤ y
  | [], x => ⟨by simp, fun y hy => by simp at hy; subst hy; exact Int.le_refl _⟩
  | z :: r, x => by
    obtain ⟨h1, h2⟩ := minI_spec r (if z < x then z else x)
    rw [List.foldl_cons]
    refine ⟨?_, fun y hy => ?_⟩
    · rcases List.mem_cons.mp h1 with e | e
      · rw [e]; split <;> simp
      · exact List.mem_cons_of_mem _ (List.mem_cons_of_mem _ e)
    · have h0 := h2 _ List.mem_cons_self
      rcases List.mem_cons.mp hy with e | e
      · subst e; refine Int.le_trans h0 ?_; split <;> omega
      · rcases List.mem_cons.mp e with e | e
        · subst e; refine Int.le_trans h0 ?_; split <;> omega
        · exact h2 y (List.mem_cons_of_mem _ e)

/-! ### built-in functions -/
inductive Bf where
  | len | abs | int | sum | max | min | all | any | sorted | list | tuple
def Bf.nm : Bf → Str
  | .len => "len" | .abs => "abs" | .int => "int" | .sum => "sum" | .max => "max" | .min => "min" | .all => "all" | .any => "any" | .sorted => "sorted" | .list => "list" | .tuple => "tuple"
def Bf.val : Bf → Value
  | .len => .builtin "len" | .abs => .builtin "abs" | .int => .type "int" | .sum => .builtin "sum" | .max => .builtin "max" | .min => .builtin "min" | .all => .builtin "all" | .any => .builtin "any" | .sorted => .builtin "sorted" | .list => .type "list" | .tuple => .type "tuple"
def lenD : PyData → Option OV
  | .list ds => some (.fz (.int (ds.length : Int)))
  | .tuple ds => some (.fz (.int (ds.length : Int)))
  | .str x => some (.fz (.int (x.length : Int)))
  | _ => none
def bfD : Bf → List PyData → Option OV
  | .len, [d] => lenD d
  | .abs, [.int i] => some (.fz (.int (if i < 0 then -i else i)))
  | .int, [.int i] => some (.fz (.int i))
  | .int, [.bool b] => some (.fz (.int (if b = true then 1 else 0)))
  | .sum, [.list ds] => (intsOf ds).map fun ns => .fz (.int ns.sum)
  | .max, [.list ds] => (intsOf ds).bind fun ns => (maxI ns).map fun m => .fz (.int m)
  | .max, [.int i, .int j] => some (.fz (.int (if j > i then j else i)))
  | .min, [.list ds] => (intsOf ds).bind fun ns => (minI ns).map fun m => .fz (.int m)
  | .min, [.int i, .int j] => some (.fz (.int (if j < i then j else i)))
  | .all, [.list ds] => (bolsOf ds).map fun bs => .fz (.bool (bs.all id))
  | .any, [.list ds] => (bolsOf ds).map fun bs => .fz (.bool (bs.any id))
  | .sorted, [.list ds] => (match intsOf ds with
    | some ns => some (.ol ((isortI ns).map fun i => .fz (.int i)))
    | none => (strsOf ds).map fun ss => .ol ((isortS ss).map fun i => .fz (.str i)))
  | .list, [.list ds] => some (.ol (ds.map .fz))
  | .list, [.tuple ds] => some (.ol (ds.map .fz))
  | .tuple, [.list ds] => some (.fz (.tuple ds))
  | .tuple, [.tuple ds] => some (.fz (.tuple ds))
  | _, _ => none
def wC (S : Ctx) (f : Value) : List V → Hp → VK → Prop := fun vs H Q => ∃ r, (∀ X, S.has X → CallR X f r) ∧ r vs H Q
/-- a call of values keeps to g -/
def CallOk (S : Ctx) (f : Value) (g : List PyData → Option OV) : Prop := ∀ (σ : St) (env : Env) (Z H : Hp) (F : Fp) (vs : List V) (ds : List PyData) (r : OV), SI S.K Z H σ env F → Rps Z vs ds → g ds = some r →
  ∀ Q : VK, (∀ v Z' H' G, SI S.K Z' H' σ env F → OR S.K Z' H' v r G → Stp Z H F Z' H' F G → Q v H') → wC S f vs H Q
def callM (ml : M (List PyData)) (g : List PyData → Option OV) : M OV := fun env => (ml env).bind fun ds e1 => Rs.o (g ds) e1
section
variable {S : Ctx} {X : Cx} {a e : Expr} {es : List Expr} {ma : M PyData} {ml : M (List PyData)} {g : List PyData → Option OV} {pos : Pos}
theorem cr_w {f : Value} (h : S.has X) : CallR X f (wC S f) := fun pins s σ H xs us Q I r ⟨R, p, q⟩ => p X h pins s σ H xs us Q I r q
theorem sv_blt {x : Str} {f : Value} {p : Pos} (n : BltName S x) (hf : (∃ id, f = .builtin id) ∨ ∃ id, f = .type id) (hv : bootBuiltins x = some f) (hx : x ≠ "__name__") (hd : (x == ("__debug__" : Str)) = false) (ho : CallOk S f g) (hl : SL S (a :: es) ml) (hn : (a :: es).all notStar = true) :
    SV S (.Call (.Name x p) (a :: es) [] pos) (callM ml g) := .of fun σ env Z H F I Q mm hm k kx kb => by
  rw [List.all_cons, Bool.and_eq_true] at hn
  refine ⟨tCB (wC S f) (wA S (a :: es)), fun X hX => ?_, ?_⟩
  · rcases hf with ⟨id, rfl⟩ | ⟨id, rfl⟩
    · exact pe_callB (cr_w hX) (n.g hX).1 (n.g hX).2 hv (pa_w hX) hx hd (star_cons hn.1) (plain_any hn.2)
    · exact pe_callTy (cr_w hX) (n.g hX).1 (n.g hX).2 hv (pa_w hX) hx hd (star_cons hn.1) (plain_any hn.2)
  refine hl.go I hm kx kb fun ds e1 vs Z1 H1 F1 _ q1 I1 r1 s1 => ?_
  rw [q1] at kb
  obtain ⟨r, hr⟩ := ro_nb kb
  exact ho σ e1 Z1 H1 F1 vs ds r I1 r1 hr Q fun v Z' H' G I' o' s' => k r e1 (by rw [q1, hr]; rfl) v Z' H' F1 G I' o' (s1.trans0 s')
theorem wc_mk {f : Value} {vs : List V} {H : Hp} {Q : VK} {R : List V → Hp → VK → Prop} (h : ∀ X, S.has X → CallR X f R) (q : R vs H Q) : wC S f vs H Q := ⟨R, h, q⟩
def rLenQ (K : PySem.W.Frag) : List V → Hp → VK → Prop := fun xs H Q => ∃ p ys, xs = [.ref p] ∧ (SqL K H p ys ∨ SqT K H p ys) ∧ Q (.int ys.length) H
def rListQ (K : PySem.W.Frag) : List V → Hp → VK → Prop := fun xs H Q => ∃ p ys, xs = [.ref p] ∧ (SqL K H p ys ∨ SqT K H p ys) ∧ ∀ l, H l = none → Q (.ref l) (upd H l (.lst ys))
def rTupQ (K : PySem.W.Frag) : List V → Hp → VK → Prop := fun xs H Q => ∃ p ys, xs = [.ref p] ∧ ((SqL K H p ys ∧ ∀ l, H l = none → Q (.ref l) (upd H l (.tup ys))) ∨ (SqT K H p ys ∧ Q (.ref p) H))
theorem ok_len : CallOk S (.builtin "len") (bfD .len) := by
  intro σ env Z H F vs ds r I rs hr Q k
  match ds, rs, hr with
  | [d], rs, hr =>
    obtain ⟨v, rfl, rv⟩ := rs.one
    cases rv with
    | @lst p ws es h l rr =>
      refine wc_mk (R := rLenQ S.K) (fun X hX => by rw [← hX.K]; exact call_len_seq) ⟨p, ws, rfl, .inl (.inl (.inl (I.sub _ _ h))), ?_⟩
      rw [rr.length]
      exact k_fz I k (Option.some.inj hr).symm (.int _)
    | @tup p ws es h l rr =>
      refine wc_mk (R := rLenQ S.K) (fun X hX => by rw [← hX.K]; exact call_len_seq) ⟨p, ws, rfl, .inr (.inl (.inl (I.sub _ _ h))), ?_⟩
      rw [rr.length]
      exact k_fz I k (Option.some.inj hr).symm (.int _)
    | str x hx => exact wc_mk (fun X hX => call_len_str) ⟨x, rfl, hx.1, k_fz I k (Option.some.inj hr).symm (.int _)⟩
    | _ => cases hr
theorem ok_abs : CallOk S (.builtin "abs") (bfD .abs) := by
  intro σ env Z H F vs ds r I rs hr Q k
  match ds, rs, hr with
  | [.int i], rs, hr =>
    obtain ⟨v, rfl, rv⟩ := rs.one
    cases rv
    exact wc_mk (fun X hX => call_abs) ⟨i, rfl, k_fz I k (Option.some.inj hr).symm (.int _)⟩
theorem ok_int : CallOk S (.type "int") (bfD .int) := by
  intro σ env Z H F vs ds r I rs hr Q k
  match ds, rs, hr with
  | [.int i], rs, hr =>
    obtain ⟨v, rfl, rv⟩ := rs.one
    cases rv
    exact wc_mk (fun X hX => call_int1) (.inl ⟨i, rfl, k_fz I k (Option.some.inj hr).symm (.int _)⟩)
  | [.bool i], rs, hr =>
    obtain ⟨v, rfl, rv⟩ := rs.one
    cases rv
    exact wc_mk (fun X hX => call_int1) (.inr ⟨i, rfl, k_fz I k (Option.some.inj hr).symm (.int _)⟩)
theorem ok_sum : CallOk S (.builtin "sum") (bfD .sum) := by
  intro σ env Z H F vs ds r I rs hr Q k
  match ds, rs, hr with
  | [.list es], rs, hr =>
    obtain ⟨v, rfl, rv⟩ := rs.one
    cases rv with
    | @lst p ws es h l rr =>
      have hr : (intsOf es).map (fun ns => OV.fz (.int ns.sum)) = some r := hr
      cases q : intsOf es with
      | none => rw [q] at hr; cases hr
      | some ns =>
        rw [q] at hr
        obtain ⟨rfl, _⟩ := rps_ints rr q
        exact wc_mk (R := rSum S.K) (fun X hX => by rw [← hX.K]; exact cr_sum hX.calm) ⟨p, ns, rfl, .inl (.inl (I.sub _ _ h)), k_fz I k (Option.some.inj hr).symm (.int _)⟩
theorem ok_max : CallOk S (.builtin "max") (bfD .max) := by
  intro σ env Z H F vs ds r I rs hr Q k
  match ds, rs, hr with
  | [.list es], rs, hr =>
    obtain ⟨v, rfl, rv⟩ := rs.one
    cases rv with
    | @lst p ws es h l rr =>
      have hr : (intsOf es).bind (fun ns => (maxI ns).map fun m => OV.fz (.int m)) = some r := hr
      cases q : intsOf es with
      | none => rw [q] at hr; cases hr
      | some ns =>
        rw [q] at hr
        obtain ⟨rfl, _⟩ := rps_ints rr q
        cases ns with
        | nil => cases hr
        | cons x ns =>
          obtain ⟨m1, m2⟩ := maxI_spec ns x
          refine wc_mk (R := rMax S.K) (fun X hX => by rw [← hX.K]; exact cr_max hX.calm) ⟨p, x :: ns, rfl, .inl (.inl (I.sub _ _ h)), Nat.succ_pos _, fun m hm hle => ?_⟩
          have e : m = ns.foldl (fun a b => if b > a then b else a) x := Int.le_antisymm (m2 m hm) (hle _ m1)
          rw [e]
          exact k_fz I k (Option.some.inj hr).symm (.int _)
  | [.int i, .int j], rs, hr =>
    obtain ⟨v, v', rfl, rv, rv'⟩ := rs.two
    cases rv; cases rv'
    exact wc_mk (fun X hX => call_max2 hX.calm) ⟨i, j, rfl, k_fz I k (Option.some.inj hr).symm (.int _)⟩
theorem ok_min : CallOk S (.builtin "min") (bfD .min) := by
  intro σ env Z H F vs ds r I rs hr Q k
  match ds, rs, hr with
  | [.list es], rs, hr =>
    obtain ⟨v, rfl, rv⟩ := rs.one
    cases rv with
    | @lst p ws es h l rr =>
      have hr : (intsOf es).bind (fun ns => (minI ns).map fun m => OV.fz (.int m)) = some r := hr
      cases q : intsOf es with
      | none => rw [q] at hr; cases hr
      | some ns =>
        rw [q] at hr
        obtain ⟨rfl, _⟩ := rps_ints rr q
        cases ns with
        | nil => cases hr
        | cons x ns =>
          obtain ⟨m1, m2⟩ := minI_spec ns x
          refine wc_mk (R := rMin S.K) (fun X hX => by rw [← hX.K]; exact cr_min hX.calm) ⟨p, x :: ns, rfl, .inl (.inl (I.sub _ _ h)), Nat.succ_pos _, fun m hm hle => ?_⟩
          have e : m = ns.foldl (fun a b => if b < a then b else a) x := Int.le_antisymm (hle _ m1) (m2 m hm)
          rw [e]
          exact k_fz I k (Option.some.inj hr).symm (.int _)
  | [.int i, .int j], rs, hr =>
    obtain ⟨v, v', rfl, rv, rv'⟩ := rs.two
    cases rv; cases rv'
    exact wc_mk (fun X hX => call_min2 hX.calm) ⟨i, j, rfl, k_fz I k (Option.some.inj hr).symm (.int _)⟩
theorem ok_all : CallOk S (.builtin "all") (bfD .all) := by
  intro σ env Z H F vs ds r I rs hr Q k
  match ds, rs, hr with
  | [.list es], rs, hr =>
    obtain ⟨v, rfl, rv⟩ := rs.one
    cases rv with
    | @lst p ws es h l rr =>
      have hr : (bolsOf es).map (fun bs => OV.fz (.bool (bs.all id))) = some r := hr
      cases q : bolsOf es with
      | none => rw [q] at hr; cases hr
      | some ns =>
        rw [q] at hr
        obtain rfl := rps_bols rr q
        exact wc_mk (R := rAll S.K) (fun X hX => by rw [← hX.K]; exact cr_all hX.calm) ⟨p, ns, rfl, .inl (.inl (I.sub _ _ h)), k_fz I k (Option.some.inj hr).symm (.bl _)⟩
theorem ok_any : CallOk S (.builtin "any") (bfD .any) := by
  intro σ env Z H F vs ds r I rs hr Q k
  match ds, rs, hr with
  | [.list es], rs, hr =>
    obtain ⟨v, rfl, rv⟩ := rs.one
    cases rv with
    | @lst p ws es h l rr =>
      have hr : (bolsOf es).map (fun bs => OV.fz (.bool (bs.any id))) = some r := hr
      cases q : bolsOf es with
      | none => rw [q] at hr; cases hr
      | some ns =>
        rw [q] at hr
        obtain rfl := rps_bols rr q
        exact wc_mk (R := rAny S.K) (fun X hX => by rw [← hX.K]; exact cr_any hX.calm) ⟨p, ns, rfl, .inl (.inl (I.sub _ _ h)), k_fz I k (Option.some.inj hr).symm (.bl _)⟩
/-- sorted of texts, any number of them -/
def rSortedSA (K : PySem.W.Frag) : List V → Hp → VK → Prop := fun vs H Q => ∃ (a : Addr) (xs : List Str), vs = [V.ref a] ∧ SqL K H a (xs.map V.str) ∧
  ∀ (ys : List Str) (p : Addr), ys.Perm xs → PyProof.Rows.sortedS ys = true → H p = none → Q (.ref p) (upd H p (.lst (ys.map V.str)))
theorem cr_sortedSA : CallR X (.builtin "sorted") (rSortedSA X.K) := by
  intro pins s σ H vs us Q I r h
  obtain ⟨a, xs, rfl, hs, q⟩ := h
  obtain ⟨its, rv, hl, hz⟩ := I.list hs
  rw [Vals.ref1 r]
  have hlen0 := rv.length
  refine PyProof.Rows.sorted_strsAny hl.isList rv.strs (by rw [← hlen0]; exact hz) fun out ys h1 h2 h3 => ?_
  obtain ⟨ep, he'⟩ := PyProof.Rows.sortedAll_at s.heap its out
  have hlen : (ys.map V.str).length ≤ sizeLine := by rw [List.length_map, h2.length_eq]; rw [List.length_map] at hz; exact hz
  exact ⟨.ref _, upd H (s.heap.objs.size + 1) (.lst (ys.map V.str)), I.laid (t' := s.toks) (fun _ _ => PyProof.Rows.sortedAll_old) (Nat.le_succ _) ⟨hlen, out.toList, ep, vals_of_strs h1, he'⟩, rfl, q ys _ h2 h3 (I.hok.fresh (Nat.le_succ _))⟩
theorem rising_le : ∀ {l : List Str} {p : Str}, PyProof.Rows.risingS p l = true → (∀ x ∈ l, leS p x = true) ∧ l.Pairwise (fun a b => leS a b = true)
  | [], _, _ => ⟨fun x z => (nomatch z), List.Pairwise.nil⟩
  | x :: r, p, h => by
    unfold PyProof.Rows.risingS at h
    rw [Bool.and_eq_true] at h
    have h1 : leS p x = true := by
      unfold leS
      rw [← PyProof.Rows.ltCps_eq]; exact h.1
    obtain ⟨g1, g2⟩ := rising_le h.2
    refine ⟨fun y hy => ?_, List.pairwise_cons.mpr ⟨g1, g2⟩⟩
    rcases List.mem_cons.mp hy with e | e
    · rw [e]; exact h1
    · exact leS_trans h1 (g1 y e)
theorem sortedS_pw {l : List Str} (h : PyProof.Rows.sortedS l = true) : l.Pairwise (fun a b => leS a b = true) := by
  cases l with
  | nil => exact .nil
  | cons x r =>
    obtain ⟨g1, g2⟩ := rising_le (show PyProof.Rows.risingS x r = true from h)
    exact List.pairwise_cons.mpr ⟨g1, g2⟩
theorem ok_sorted : CallOk S (.builtin "sorted") (bfD .sorted) := by
  intro σ env Z H F vs ds r I rs hr Q k
  match ds, rs, hr with
  | [.list es], rs, hr =>
    obtain ⟨v, rfl, rv⟩ := rs.one
    cases rv with
    | @lst p ws es h l rr =>
      have hr : (match intsOf es with
        | some ns => some (OV.ol ((isortI ns).map fun i => .fz (.int i)))
        | none => (strsOf es).map fun ss => .ol ((isortS ss).map fun i => .fz (.str i))) = some r := hr
      cases q : intsOf es with
      | some ns =>
        rw [q] at hr
        have e : r = .ol ((isortI ns).map fun i => .fz (.int i)) := (Option.some.inj hr).symm
        obtain ⟨rfl, _⟩ := rps_ints rr q
        refine wc_mk (R := rSortedI S.K) (fun X hX => by rw [← hX.K]; exact cr_sortedI) ⟨p, ns, rfl, .inl (.inl (I.sub _ _ h)), fun ns' p' pm st hp => ?_⟩
        have e2 : ns' = isortI ns := sortedI_unique (pm.trans (isortI_perm ns).symm) st (isortI_sorted ns)
        subst e2
        obtain ⟨I', o', s'⟩ := I.newL hp (ints_rps (isortI ns)) (by rw [List.length_map, (isortI_perm ns).length_eq]; rw [List.length_map] at l; exact l)
        rw [e] at k
        rw [List.map_map] at o'
        exact k _ _ _ _ I' o' s'
      | none =>
        rw [q] at hr
        cases q2 : strsOf es with
        | none => rw [q2] at hr; cases hr
        | some ss =>
          rw [q2] at hr
          have e : r = .ol ((isortS ss).map fun i => .fz (.str i)) := (Option.some.inj hr).symm
          obtain ⟨rfl, hg⟩ := rps_strs rr q2
          refine wc_mk (R := rSortedSA S.K) (fun X hX => by rw [← hX.K]; exact cr_sortedSA) ⟨p, ss, rfl, .inl (.inl (I.sub _ _ h)), fun ns' p' pm st hp => ?_⟩
          have e2 : ns' = isortS ss := sortedS_unique (pm.trans (isortS_perm ss).symm) (sortedS_pw st) (isortS_sorted ss)
          subst e2
          obtain ⟨I', o', s'⟩ := I.newL hp (strs_rps (isortS ss) fun x hx => hg x ((isortS_perm ss).mem_iff.mp hx)) (by rw [List.length_map, (isortS_perm ss).length_eq]; rw [List.length_map] at l; exact l)
          rw [e] at k
          rw [List.map_map] at o'
          exact k _ _ _ _ I' o' s'
theorem ok_list : CallOk S (.type "list") (bfD .list) := by
  intro σ env Z H F vs ds r I rs hr Q k
  match ds, rs, hr with
  | [.list es], rs, hr =>
    obtain ⟨v, rfl, rv⟩ := rs.one
    cases rv with
    | @lst p ws es h l rr =>
      have e : r = .ol (es.map .fz) := (Option.some.inj hr).symm
      refine wc_mk (R := rListQ S.K) (fun X hX => by rw [← hX.K]; exact call_list_of) ⟨p, ws, rfl, .inl (.inl (.inl (I.sub _ _ h))), fun l' hl => ?_⟩
      obtain ⟨I', o', s'⟩ := I.newL hl rr l
      rw [e] at k
      exact k _ _ _ _ I' o' s'
  | [.tuple es], rs, hr =>
    obtain ⟨v, rfl, rv⟩ := rs.one
    cases rv with
    | @tup p ws es h l rr =>
      have e : r = .ol (es.map .fz) := (Option.some.inj hr).symm
      refine wc_mk (R := rListQ S.K) (fun X hX => by rw [← hX.K]; exact call_list_of) ⟨p, ws, rfl, .inr (.inl (.inl (I.sub _ _ h))), fun l' hl => ?_⟩
      obtain ⟨I', o', s'⟩ := I.newL hl rr l
      rw [e] at k
      exact k _ _ _ _ I' o' s'
theorem ok_tuple : CallOk S (.type "tuple") (bfD .tuple) := by
  intro σ env Z H F vs ds r I rs hr Q k
  match ds, rs, hr with
  | [.list es], rs, hr =>
    obtain ⟨v, rfl, rv⟩ := rs.one
    cases rv with
    | @lst p ws es h l rr =>
      have e : r = .fz (.tuple es) := (Option.some.inj hr).symm
      refine wc_mk (R := rTupQ S.K) (fun X hX => by rw [← hX.K]; exact call_tuple_of) ⟨p, ws, rfl, .inl ⟨.inl (.inl (I.sub _ _ h)), fun l' hl => ?_⟩⟩
      obtain ⟨I', o', s'⟩ := I.newT hl rr l
      rw [e] at k
      exact k _ _ _ _ I' (.fz o') s'
  | [.tuple es], rs, hr =>
    obtain ⟨v, rfl, rv⟩ := rs.one
    cases rv with
    | @tup p ws es h l rr =>
      refine wc_mk (R := rTupQ S.K) (fun X hX => by rw [← hX.K]; exact call_tuple_of) ⟨p, ws, rfl, .inr ⟨.inl (.inl (I.sub _ _ h)), ?_⟩⟩
      exact k_fz I k (Option.some.inj hr).symm (.tup h l rr)
theorem ok_bf (b : Bf) : CallOk S b.val (bfD b) := by
  cases b with
  | len => exact ok_len
  | abs => exact ok_abs
  | int => exact ok_int
  | sum => exact ok_sum
  | max => exact ok_max
  | min => exact ok_min
  | all => exact ok_all
  | any => exact ok_any
  | sorted => exact ok_sorted
  | list => exact ok_list
  | tuple => exact ok_tuple
theorem Bf.boot (b : Bf) : bootBuiltins b.nm = some b.val := by cases b <;> decide +kernel
theorem Bf.ne (b : Bf) : b.nm ≠ "__name__" := by cases b <;> decide +kernel
theorem Bf.nd (b : Bf) : (b.nm == ("__debug__" : Str)) = false := by cases b <;> decide +kernel
theorem Bf.kind (b : Bf) : (∃ id, b.val = .builtin id) ∨ ∃ id, b.val = .type id := by cases b <;> first | exact .inl ⟨_, rfl⟩ | exact .inr ⟨_, rfl⟩
/-! list(script) -/
def lscM (i : Nat) : M OV := fun env => match env[i]? with
  | some (some (.sc ns)) => if ns.length ≤ sizeLine then .ok (.ol (ns.map fun n => .fz (.int n))) env else .bad
  | _ => .bad
theorem sv_lsc {i : Nat} {x : Str} {p p2 : Pos} (n : BltName S "list") (m : NameOk S i x) : SV S (.Call (.Name "list" p) [.Name x p2] [] pos) (lscM i) := .of fun σ env Z H F I Q mm hm k kx kb => by
  refine ⟨tCB (rListQ S.K) (tCons (tVar i) tNil), fun X hX => by rw [← hX.K]; exact pe_callTy call_list_of (n.g hX).1 (n.g hX).2 (by decide +kernel) (pa_cons (m.pe hX) pa_nil), ?_⟩
  unfold lscM at hm
  cases q : env[i]? with
  | none => simp only [q] at hm; exact absurd hm kb
  | some o =>
    cases o with
    | none => simp only [q] at hm; exact absurd hm kb
    | some y =>
      cases y with
      | fz d => simp only [q] at hm; exact absurd hm kb
      | ol d => simp only [q] at hm; exact absurd hm kb
      | sc ns =>
        simp only [q] at hm
        split at hm
        · rename_i hl
          obtain ⟨v, ev, r⟩ := I.rep i _ q
          generalize hG : F i = G0 at r
          cases r with
          | @sc a _ hs =>
            refine ⟨.ref a, ev, a, _, rfl, .inl (Same.seq I.sub hs), fun l hl' => ?_⟩
            obtain ⟨I', o', s'⟩ := I.newL hl' (ints_rps ns) (by rw [List.length_map]; exact hl)
            rw [List.map_map] at o'
            exact k _ _ hm _ _ _ F _ I' o' s'
        · exact absurd hm kb
/-! isinstance(x, T) -/
inductive Ty where
  | int | bool | str | list | tuple
def Ty.s : Ty → String
  | .int => "int" | .bool => "bool" | .str => "str" | .list => "list" | .tuple => "tuple"
def Ty.nm : Ty → Str
  | .int => "int" | .bool => "bool" | .str => "str" | .list => "list" | .tuple => "tuple"
def isiD : PyData → Ty → Option Bool
  | .none, _ => some false
  | .bool _, .int => some true
  | .bool _, .bool => some true
  | .bool _, _ => some false
  | .int _, .int => some true
  | .int _, _ => some false
  | .str _, .str => some true
  | .str _, _ => some false
  | .list _, .list => some true
  | .list _, _ => some false
  | .tuple _, .tuple => some true
  | .tuple _, _ => some false
  | .dict _, _ => none
def isiM (ma : M PyData) (t : Ty) : M PyData := fun env => (ma env).bind fun d e1 => match isiD d t with
  | some b => .ok (.bool b) e1
  | none => .bad
theorem sd_isi {t : Ty} {p p2 : Pos} (n : BltName S "isinstance") (nt : BltName S t.nm) (ha : SD S a ma) (hn : notStar a = true) : SD S (.Call (.Name "isinstance" p) [a, .Name t.nm p2] [] pos) (isiM ma t) := .of fun σ env Z H F I Q mm hm k kx kb => by
  have hall : [Expr.Name t.nm p2].all notStar = true := rfl
  refine ⟨tCB (rIsi S.K) (tCons (wE S a) (tCons (tC (.ty t.s)) tNil)), fun X hX => by
    rw [← hX.K]
    exact pe_callB call_isi (n.g hX).1 (n.g hX).2 (by decide +kernel) (pa_cons (pe_w hX) (pa_cons (pe_bltn (v := .ty t.s) (u := .type t.s) (nt.g hX).1 (nt.g hX).2 (by cases t <;> decide +kernel) rfl (by cases t <;> decide +kernel) (by cases t <;> decide +kernel)) pa_nil (star_cons rfl)) (star_cons hn)) (by decide +kernel) (by decide +kernel) (star_cons hn) (plain_any hall), ?_⟩
  refine ha.go I hm kx kb fun d e1 va Z1 H1 F1 _ q1 I1 r1 s1 => ?_
  cases qd : isiD d t with
  | none => rw [qd] at q1; exact absurd q1 kb
  | some b =>
    rw [qd] at q1
    have fin := k _ _ q1 (.bl b) Z1 H1 F1 I1 (.bl b) s1
    cases r1 with
    | non => exact ⟨_, _, .type "NoneType", _, b, rfl, .ty _, .base .non, kit_ty (by cases t <;> cases qd <;> decide +kernel), fin⟩
    | bl c => exact ⟨_, _, .type "bool", _, b, rfl, .ty _, .base (.bl c), kit_ty (by cases t <;> cases qd <;> decide +kernel), fin⟩
    | int c => exact ⟨_, _, .type "int", _, b, rfl, .ty _, .base (.int c), kit_ty (by cases t <;> cases qd <;> decide +kernel), fin⟩
    | str c _ => exact ⟨_, _, .type "str", _, b, rfl, .ty _, .base (.str c), kit_ty (by cases t <;> cases qd <;> decide +kernel), fin⟩
    | lst h l r => exact ⟨_, _, .type "list", _, b, rfl, .ty _, .base (.lst (I1.sub _ _ h)), kit_ty (by cases t <;> cases qd <;> decide +kernel), fin⟩
    | tup h l r => exact ⟨_, _, .type "tuple", _, b, rfl, .ty _, .base (.tup (I1.sub _ _ h)), kit_ty (by cases t <;> cases qd <;> decide +kernel), fin⟩
end
end Vi

set_option Elab.async false
set_option linter.all false
set_option maxRecDepth 100000
namespace Vi
open PySem L2

/-! ### tests read over a view -/
def bwT (vs ks : List Nat) (m : M Bool) : M Bool := fun env => if noOwn (killE ks (frzE vs env)) = true then (match m (killE ks (frzE vs env)) with
    | .ok r _ => .ok r env
    | .ex x _ => .ex x (frzE vs env)
    | .bad => .bad) else .bad
theorem sb_bw {S : Ctx} {e : Expr} {m : M Bool} (vs ks : List Nat) (h : SB S e m) : SB S e (bwT vs ks m) := .of fun σ env Z H F I Q mm hm k kx kb => by
  unfold bwT at hm
  split at hm
  · rename_i hno
    obtain ⟨Z1, F1, I1, s1⟩ := frzE_ok vs I
    obtain ⟨F2, I2⟩ := killE_ok ks I1
    have no := I2.noOwn hno
    refine h σ _ Z1 H F2 I2 Q (fun r env' q Z' H' F'' I' s => ?_) (fun x env' q Z' H' F'' cls d I' s hx => ?_) fun q => kb (by rw [hm, q])
    · rw [q] at hm
      obtain ⟨⟨A1, A2⟩, _⟩ := view_back I I1 s1 no s I'.sub
      exact k _ _ hm Z H' F A1 A2
    · rw [q] at hm
      obtain ⟨_, B1, B2⟩ := view_back I I1 s1 no s I'.sub
      exact kx x _ hm Z' H' F1 cls d B1 B2 hx
  · exact absurd hm kb

/-! ### the fragment's syntax -/
inductive Tg where
  | nm (i : Nat)
  | tp (is : List Nat)
mutual
inductive Ex' where
  | var (i : Nat) | mv (i : Nat) | bw (vs ks : List Nat) (e : Ex')
  | int (i : Int) | bl (b : Bool) | non | str (x : Str) | gi (i : Int) | gs (x : Str)
  | bin (op : Operator) (a b : Ex') | neg (a : Ex') | cmp (op : CmpOp) (a b : Ex') | chain (o1 o2 : CmpOp) (a b c : Ex')
  | one (a : Ex') | and (a b : Ex') | or (a b : Ex') | not (a : Ex') | ite (c a b : Ex')
  | tup (es : Exs) | lst (es : Exs) | ix (a b : Ex') | slc (a : Ex') (lo hi : Opt)
  | call (f : Nat) (as : Args) | blt (b : Bf) (es : Exs) | isi (a : Ex') (t : Ty) | lsc (i : Nat)
  | lc (elt : Ex') (tg : Tg) (it : Itr') (c : Opt) (vs : List Nat)
  | app (i : Nat) (e : Ex') | ext (i : Nat) (e : Ex') | popAt (i : Nat) (e : Ex') | pop (i : Nat)
inductive Exs where
  | nil | cons (e : Ex') (es : Exs)
inductive Args where
  | nil | e (a : Ex') (r : Args) | o (i : Nat) (r : Args)
inductive Opt where
  | no | yes (e : Ex')
inductive Itr' where
  | e (a : Ex') | r1 (a : Ex') | r2 (a b : Ex')
end
mutual
inductive St' where
  | pass | asg (i : Nat) (e : Ex') | expr (e : Ex') | ret (e : Ex') | retN | iff (c : Ex') (a b : Sts) | forr (tg : Tg) (it : Itr') (b : Sts) | whl (n : Nat) (c : Ex') (b : Sts)
  | set (j : Nat) (i e : Ex') | augS (j : Nat) (op : Operator) (i e : Ex') | aug (i : Nat) (op : Operator) (e : Ex')
inductive Sts where
  | nil | cons (s : St') (r : Sts)
end

/-! ### its meaning -/
abbrev Rho := Nat → Den
def bdsN : List Nat → List PyData → Env → Option Env
  | [] => bdNil
  | i :: is => bdCons (bdN i) (bdsN is)
def bdG : Tg → PyData → Env → Option Env
  | .nm i => bdN i
  | .tp is => bdT is.length (bdsN is)
def Tg.js : Tg → List Nat
  | .nm i => [i]
  | .tp is => is
mutual
def ev (ρ : Rho) : Ex' → M OV
  | .var i => rdVar i
  | .mv i => mvVar i
  | .bw vs ks e => bwM vs ks (ev ρ e)
  | .int i => fun env => .ok (.fz (.int i)) env
  | .bl b => fun env => .ok (.fz (.bool b)) env
  | .non => fun env => .ok (.fz .none) env
  | .str x => fun env => .ok (.fz (.str x)) env
  | .gi i => fun env => .ok (.fz (.int i)) env
  | .gs x => fun env => .ok (.fz (.str x)) env
  | .bin op a b => bin2 (fun env => (ev ρ a env).d) (fun env => (ev ρ b env).d) (binD op)
  | .neg a => fun env => ((ev ρ a env).d).bind fun d e => Rs.o (negD d) e
  | .cmp op a b => fun env => (cmp2 (fun env => (ev ρ a env).d) (fun env => (ev ρ b env).d) (cmpD op) env).bind fun r e => .ok (.fz (.bool r)) e
  | .chain o1 o2 a b c => fun env => (chain2 (fun env => (ev ρ a env).d) (fun env => (ev ρ b env).d) (fun env => (ev ρ c env).d) (cmpD o1) (cmpD o2) env).bind fun r e => .ok (.fz (.bool r)) e
  | .one a => fun env => ((ev ρ a env).d).bind fun d e => .ok (.fz d) e
  | .and a b => fun env => (andV (fun env => (ev ρ a env).d) (fun env => (ev ρ b env).d) env).bind fun d e => .ok (.fz d) e
  | .or a b => fun env => (orV (fun env => (ev ρ a env).d) (fun env => (ev ρ b env).d) env).bind fun d e => .ok (.fz d) e
  | .not a => fun env => (notV (fun env => (ev ρ a env).d) env).bind fun d e => .ok (.fz d) e
  | .ite c a b => iteV (evT ρ c) (ev ρ a) (ev ρ b)
  | .tup es => fun env => (tupM (evs ρ es) env).bind fun d e => .ok (.fz d) e
  | .lst es => lstM (evO ρ es)
  | .ix a b => fun env => (ix2 (fun env => (ev ρ a env).d) (fun env => (ev ρ b env).d) env).bind fun d e => .ok (.fz d) e
  | .slc a lo hi => slc3 (fun env => (ev ρ a env).d) (evP ρ lo) (evP ρ hi)
  | .call f as => callD (evA ρ as) (ρ f)
  | .blt b es => callM (evs ρ es) (bfD b)
  | .isi a t => fun env => (isiM (fun env => (ev ρ a env).d) t env).bind fun d e => .ok (.fz d) e
  | .lsc i => lscM i
  | .lc elt tg it c vs => compM (evI ρ it) (bdG tg) (evC ρ c) (fun env => (ev ρ elt env).d) vs
  | .app i e => appM i (ev ρ e)
  | .ext i e => extM i (fun env => (ev ρ e env).d)
  | .popAt i e => popAtM i (fun env => (ev ρ e env).d)
  | .pop i => popM i
def evT (ρ : Rho) : Ex' → M Bool
  | .bw vs ks e => bwT vs ks (evT ρ e)
  | .cmp op a b => cmp2 (fun env => (ev ρ a env).d) (fun env => (ev ρ b env).d) (cmpD op)
  | .chain o1 o2 a b c => chain2 (fun env => (ev ρ a env).d) (fun env => (ev ρ b env).d) (fun env => (ev ρ c env).d) (cmpD o1) (cmpD o2)
  | .one a => evT ρ a
  | .and a b => andT (evT ρ a) (evT ρ b)
  | .or a b => orT (evT ρ a) (evT ρ b)
  | .not a => notT (evT ρ a)
  | .ite _ _ _ => fun _ => .bad
  | e => fun env => (ev ρ e env).d.tst
def evs (ρ : Rho) : Exs → M (List PyData)
  | .nil => fun env => .ok [] env
  | .cons e es => consL (fun env => (ev ρ e env).d) (evs ρ es)
def evO (ρ : Rho) : Exs → M (List OV)
  | .nil => fun env => .ok [] env
  | .cons e es => consO (ev ρ e) (evO ρ es)
def evA (ρ : Rho) : Args → List ArgM
  | .nil => []
  | .e a r => .inl (fun env => (ev ρ a env).d) :: evA ρ r
  | .o i r => .inr i :: evA ρ r
def evP (ρ : Rho) : Opt → MO
  | .no => fun env => .ok none env
  | .yes e => partM (fun env => (ev ρ e env).d)
def evC (ρ : Rho) : Opt → M Bool
  | .no => fun env => .ok true env
  | .yes e => evT ρ e
def evI (ρ : Rho) : Itr' → M (List PyData)
  | .e a => itM (fun env => (ev ρ a env).d)
  | .r1 a => rngM (consL (fun env => (ev ρ a env).d) (fun env => .ok [] env))
  | .r2 a b => rngM (consL (fun env => (ev ρ a env).d) (consL (fun env => (ev ρ b env).d) (fun env => .ok [] env)))
end
mutual
def exS (ρ : Rho) (own : List Nat) : St' → MS
  | .pass => fun env => .nx env
  | .asg i e => asgM own i (ev ρ e)
  | .expr e => exprM (ev ρ e)
  | .ret e => retM (ev ρ e)
  | .retN => fun env => .ret (.fz .none) env
  | .iff c a b => ifM (evT ρ c) (exs ρ own a) (exs ρ own b)
  | .forr tg it b => forM' own tg.js (evI ρ it) (bdG tg) (exs ρ own b)
  | .whl n c b => whileL (evT ρ c) (exs ρ own b) n
  | .set j i e => setM j (fun env => (ev ρ i env).d) (fun env => (ev ρ e env).d)
  | .augS j op i e => augSM j op (fun env => (ev ρ i env).d) (fun env => (ev ρ e env).d)
  | .aug i op e => augM own i op (fun env => (ev ρ e env).d)
def exs (ρ : Rho) (own : List Nat) : Sts → MS
  | .nil => fun env => .nx env
  | .cons s r => fun env => (exS ρ own s env).bind (exs ρ own r)
end

/-! ### it is the text -/
/-- names by slots; defs by numbers, with how many parameters; built-ins; the module's constants -/
structure Tab where
  N : List Str
  fs : List (Str × Nat)
  bl : List Str
  ci : List (Str × Int)
  cs : List (Str × Str)
def dbg (x : Str) : Bool := x == ("__debug__" : Str)
def okVar (T : Tab) (sc : Scope) (i : Nat) (x : Str) : Bool := (T.N[i]? == some x) && (match sc.names.lookup x with | some .local => true | some .cell => true | some .free => true | _ => false) && !(dbg x) && !(x == ("__classdict__" : Str))
def okSto (T : Tab) (sc : Scope) (fn : Str → Bool) (i : Nat) (x : Str) : Bool := (T.N[i]? == some x) && (match sc.names.lookup x with | some .local => true | some .cell => fn x | _ => false)
def okGl (sc : Scope) (x : Str) : Bool := (match sc.names.lookup x with | some .globalImplicit => true | _ => false) && !(dbg x)
def okBl (T : Tab) (sc : Scope) (x : Str) : Bool := T.bl.contains x && (match sc.names.lookup x with | some .globalImplicit => true | _ => false)
def StrGB (x : Str) : Bool := decide (x.length ≤ 16777216) && x.cps.all (· < 0x110000)
def notSl : Expr → Bool
  | .Slice _ _ _ _ => false
  | _ => true
def ownOf (T : Tab) (vs : List Nat) : List (Str × Nat) := vs.map fun i => (T.N.getD i Str.empty, i)
def blkFn (scope : Scope) : Str → Bool := fun x => scope.names.lookup x == some .cell
def mTs (T : Tab) (sc : Scope) (fn : Str → Bool) : List Nat → List Expr → Bool
  | [], [] => true
  | i :: is, .Name x _ :: r => okSto T sc fn i x && mTs T sc fn is r
  | _, _ => false
def mG (T : Tab) (sc : Scope) (fn : Str → Bool) : Tg → Expr → Bool
  | .nm i, .Name x _ => okSto T sc fn i x
  | .tp is, .Tuple es _ _ => mTs T sc fn is es
  | _, _ => false
mutual
def mE (T : Tab) (sc : Scope) : Ex' → Expr → Bool
  | .var i, .Name x _ => okVar T sc i x
  | .mv i, .Name x _ => okVar T sc i x
  | .bw _ _ e, p => mE T sc e p
  | .int i, .Constant (.int j) _ _ => i == j
  | .bl b, .Constant (.bool c) _ _ => b == c
  | .non, .Constant .none _ _ => true
  | .str x, .Constant (.str y) _ _ => x == y && StrGB y
  | .gi i, .Name x _ => okGl sc x && T.ci.contains (x, i)
  | .gs y, .Name x _ => okGl sc x && T.cs.contains (x, y) && StrGB y
  | .bin op a b, .BinOp p o q _ => op == o && mE T sc a p && mE T sc b q
  | .neg a, .UnaryOp .USub p _ => mE T sc a p
  | .cmp op a b, .Compare p [o] [q] _ => op == o && mE T sc a p && mE T sc b q && notSetE q
  | .chain o1 o2 a b c, .Compare p [o, o'] [q, r] _ => o1 == o && o2 == o' && mE T sc a p && mE T sc b q && mE T sc c r && notSetE r
  | .one a, .BoolOp _ [p] _ => mE T sc a p
  | .and a b, .BoolOp .And (p :: q :: r) pos => mE T sc a p && mE T sc b (.BoolOp .And (q :: r) pos)
  | .or a b, .BoolOp .Or (p :: q :: r) pos => mE T sc a p && mE T sc b (.BoolOp .Or (q :: r) pos)
  | .not a, .UnaryOp .Not p _ => mE T sc a p
  | .ite c a b, .IfExp r p q _ => mE T sc c r && mE T sc a p && mE T sc b q
  | .tup es, .Tuple ps _ _ => mEs T sc es ps
  | .lst es, .List ps _ => mEs T sc es ps
  | .ix a b, .Subscript p q _ => mE T sc a p && mE T sc b q && notSl q
  | .slc a lo hi, .Subscript p (.Slice l h none _) _ => mE T sc a p && mO T sc lo l && mO T sc hi h
  | .call f as, .Call (.Name x _) (p :: ps) [] _ => okGl sc x && mA T sc as (p :: ps) && (match T.fs[f]? with | some (y, n) => x == y && n == (p :: ps).length | none => false)
  | .blt b es, .Call (.Name x _) (p :: ps) [] _ => x == b.nm && okBl T sc x && mEs T sc es (p :: ps)
  | .isi a t, .Call (.Name x _) [p, .Name y _] [] _ => x == ("isinstance" : Str) && y == t.nm && okBl T sc x && okBl T sc y && mE T sc a p && notStar p
  | .lsc i, .Call (.Name x _) [.Name y _] [] _ => x == ("list" : Str) && okBl T sc x && okVar T sc i y
  | .lc elt tg it c vs, .ListComp e [⟨g, t, ifs, isA⟩] scope _ => isA == 0 && blkC T.N sc scope (ownOf T vs) && mI T sc it t && notSetE t && mG T (relS scope sc) (blkFn scope) tg g && tg.js.all vs.contains && mC T (relS scope sc) c ifs && mE T (relS scope sc) elt e
  | .app i e, .Call (.Attribute (.Name x _) m ap) [p] [] cp => m == ("append" : Str) && okVar T sc i x && mE T sc e p && notStar p && ap.endLine == cp.line
  | .ext i e, .Call (.Attribute (.Name x _) m ap) [p] [] cp => m == ("extend" : Str) && okVar T sc i x && mE T sc e p && notStar p && ap.endLine == cp.line
  | .popAt i e, .Call (.Attribute (.Name x _) m ap) [p] [] cp => m == ("pop" : Str) && okVar T sc i x && mE T sc e p && notStar p && ap.endLine == cp.line
  | .pop i, .Call (.Attribute (.Name x _) m ap) [] [] cp => m == ("pop" : Str) && okVar T sc i x && ap.endLine == cp.line
  | _, _ => false
def mEs (T : Tab) (sc : Scope) : Exs → List Expr → Bool
  | .nil, [] => true
  | .cons e es, p :: ps => mE T sc e p && notStar p && mEs T sc es ps
  | _, _ => false
def mA (T : Tab) (sc : Scope) : Args → List Expr → Bool
  | .nil, [] => true
  | .e a r, p :: ps => mE T sc a p && notStar p && mA T sc r ps
  | .o i r, .Name x _ :: ps => okVar T sc i x && mA T sc r ps
  | _, _ => false
def mO (T : Tab) (sc : Scope) : Opt → Option Expr → Bool
  | .no, none => true
  | .yes e, some p => mE T sc e p
  | _, _ => false
def mC (T : Tab) (sc : Scope) : Opt → List Expr → Bool
  | .no, [] => true
  | .yes e, [p] => mE T sc e p
  | _, _ => false
def mI (T : Tab) (sc : Scope) : Itr' → Expr → Bool
  | .e a, p => mE T sc a p
  | .r1 a, .Call (.Name x _) [p] [] _ => x == ("range" : Str) && okBl T sc x && mE T sc a p && notStar p
  | .r2 a b, .Call (.Name x _) [p, q] [] _ => x == ("range" : Str) && okBl T sc x && mE T sc a p && mE T sc b q && notStar p && notStar q
  | _, _ => false
end
mutual
def mS (T : Tab) (sc : Scope) (fn : Str → Bool) : St' → Stmt → Bool
  | .pass, .Pass _ => true
  | .asg i e, .Assign [.Name x _] p _ => okSto T sc fn i x && mE T sc e p && (notComp p || (match e, p with | .lc _ _ _ _ _, .ListComp _ [_] _ _ => true | _, _ => false))
  | .expr e, .Expr p _ => mE T sc e p && notComp p
  | .ret e, .Return (some p) _ => mE T sc e p
  | .retN, .Return none _ => true
  | .iff c a b, .If p x y _ => mE T sc c p && mSs T sc fn a x && mSs T sc fn b y
  | .forr tg it b, .For g t x [] _ => mG T sc fn tg g && mI T sc it t && notSetE t && mSs T sc fn b x
  | .whl _ c b, .While p x [] _ => mE T sc c p && mSs T sc fn b x
  | .set j i e, .Assign [.Subscript (.Name x _) q _] p _ => okVar T sc j x && mE T sc i q && mE T sc e p && notSl q
  | .augS j op i e, .AugAssign (.Subscript (.Name x _) q _) o p _ => okVar T sc j x && op == o && mE T sc i q && mE T sc e p && notSl q
  | .aug i op e, .AugAssign (.Name x _) o p _ => okSto T sc fn i x && op == o && mE T sc e p
  | _, _ => false
def mSs (T : Tab) (sc : Scope) (fn : Str → Bool) : Sts → List Stmt → Bool
  | .nil, [] => true
  | .cons s r, p :: ps => mS T sc fn s p && mSs T sc fn r ps
  | _, _ => false
end
end Vi

set_option Elab.async false
set_option linter.all false
set_option maxRecDepth 100000
set_option maxHeartbeats 8000000
namespace Vi
open PySem L2
structure Good (T : Tab) (ρ : Rho) (S : Ctx) : Prop where
  N : S.N = T.N
  nd : T.N.Nodup
  fs : ∀ f x n, T.fs[f]? = some (x, n) → FnI S x n (ρ f)
  bl : ∀ x, T.bl.contains x = true → S.mg x = none
  ci : ∀ x i, T.ci.contains (x, i) = true → ∃ t, S.mg x = some (.int i t)
  cs : ∀ x y, T.cs.contains (x, y) = true → ∃ t, S.mg x = some (.str y t)
section
variable {T : Tab} {ρ : Rho}
theorem Good.blk {S : Ctx} (g : Good T ρ S) (scope : Scope) : Good T ρ (S.blk scope) := ⟨g.N, g.nd, g.fs, g.bl, g.ci, g.cs⟩
theorem okVar_ok {S : Ctx} (g : Good T ρ S) {i : Nat} {x : Str} (h : okVar T S.scope i x = true) : NameOk S i x := by
  unfold okVar at h
  simp only [Bool.and_eq_true, beq_iff_eq, Bool.not_eq_true'] at h
  obtain ⟨⟨⟨h1, h2⟩, h3⟩, h4⟩ := h
  refine ⟨by rw [g.N]; exact h1, ?_, h3, by simpa using h4⟩
  split at h2
  · exact .inl (by assumption)
  · exact .inr (.inl (by assumption))
  · exact .inr (.inr (by assumption))
  · cases h2
theorem okSto_ok {S : Ctx} (g : Good T ρ S) {i : Nat} {x : Str} (h : okSto T S.scope S.fn i x = true) : StoOk S i x := by
  unfold okSto at h
  simp only [Bool.and_eq_true, beq_iff_eq] at h
  obtain ⟨h1, h2⟩ := h
  refine ⟨by rw [g.N]; exact h1, ?_, ?_, by rw [g.N]; exact g.nd⟩
  · split at h2
    · exact .inl (by assumption)
    · exact .inr (by assumption)
    · cases h2
  · split at h2
    · exact .inr (by assumption)
    · exact .inl h2
    · cases h2
theorem okGl_ok {S : Ctx} {x : Str} (h : okGl S.scope x = true) : S.scope.names.lookup x = some .globalImplicit ∧ (x == ("__debug__" : Str)) = false := by
  unfold okGl at h
  rw [Bool.and_eq_true] at h
  refine ⟨?_, by have := h.2; unfold dbg at this; simpa using this⟩
  have h1 := h.1
  split at h1
  · assumption
  · cases h1
theorem okBl_ok {S : Ctx} (g : Good T ρ S) {x : Str} (h : okBl T S.scope x = true) : BltName S x := by
  unfold okBl at h
  rw [Bool.and_eq_true] at h
  refine ⟨?_, g.bl x h.1⟩
  have h1 := h.2
  split at h1
  · assumption
  · cases h1
theorem strG_of {x : Str} (h : StrGB x = true) : StrG x := by
  unfold StrGB at h
  rw [Bool.and_eq_true] at h
  exact ⟨by rw [sizeLine_eq]; exact of_decide_eq_true h.1, h.2⟩
theorem notSet_of {e : Expr} (h : notSetE e = true) : ∀ es k p, e ≠ .Set es k p := fun es k p z => by rw [z] at h; cases h
theorem notSl_of {e : Expr} (h : notSl e = true) : ∀ l u st p, e ≠ .Slice l u st p := fun l u st p z => by rw [z] at h; cases h
theorem mTs_ok {S : Ctx} (g : Good T ρ S) : ∀ {is : List Nat} {ps : List Expr}, mTs T S.scope S.fn is ps = true → SGs S ps is (bdsN is) ∧ ps.length = is.length ∧ ps.all notStar = true
  | [], [], _ => ⟨sgs_nil, rfl, rfl⟩
  | i :: is, p :: ps, h => by
    cases p with
    | Name x pos =>
      have h : (okSto T S.scope S.fn i x && mTs T S.scope S.fn is ps) = true := h
      rw [Bool.and_eq_true] at h
      obtain ⟨h1, h2, h3⟩ := mTs_ok g h.2
      refine ⟨sgs_cons (js := [i]) (sg_name (okSto_ok g h.1)) h1 rfl, by simp [h2], by rw [List.all_cons, h3]; rfl⟩
    | _ => cases h
  | [], _ :: _, h => by cases h
  | _ :: _, [], h => by cases h
theorem mG_ok {S : Ctx} (g : Good T ρ S) {t : Tg} {p : Expr} (h : mG T S.scope S.fn t p = true) : SG S p t.js (bdG t) := by
  cases t with
  | nm i =>
    cases p with
    | Name x pos => exact sg_name (okSto_ok g h)
    | _ => cases h
  | tp is =>
    cases p with
    | Tuple es k pos =>
      obtain ⟨h1, h2, h3⟩ := mTs_ok g (show mTs T S.scope S.fn is es = true from h)
      have := sg_tup (k0 := k) (pos := pos) h1 h3
      rw [h2] at this
      exact this
    | _ => cases h
theorem mEs_star {S : Ctx} : ∀ {es : Exs} {ps : List Expr}, mEs T S.scope es ps = true → ps.all notStar = true
  | .nil, [], _ => rfl
  | .cons e es, p :: ps, h => by
    simp only [mEs, Bool.and_eq_true] at h
    rw [List.all_cons, h.1.2, mEs_star h.2]; rfl
  | .nil, _ :: _, h => by simp [mEs] at h
  | .cons _ _, [], h => by simp [mEs] at h
theorem mA_star {S : Ctx} : ∀ {as : Args} {ps : List Expr}, mA T S.scope as ps = true → ps.all notStar = true ∧ (evA ρ as).length = ps.length
  | .nil, [], _ => ⟨rfl, by simp [evA]⟩
  | .e a r, p :: ps, h => by
    simp only [mA, Bool.and_eq_true] at h
    obtain ⟨h1, h2⟩ := mA_star h.2
    refine ⟨by rw [List.all_cons, h.1.2, h1]; rfl, ?_⟩
    unfold evA
    rw [List.length_cons, List.length_cons, h2]
  | .o i r, p :: ps, h => by
    cases p with
    | Name x pos =>
      simp only [mA, Bool.and_eq_true] at h
      obtain ⟨h1, h2⟩ := mA_star h.2
      refine ⟨by rw [List.all_cons, h1]; rfl, ?_⟩
      unfold evA
      rw [List.length_cons, List.length_cons, h2]
    | _ => simp [mA] at h
  | .nil, _ :: _, h => by simp [mA] at h
  | .e _ _, [], h => by simp [mA] at h
  | .o _ _, [], h => by simp [mA] at h
theorem sw_bw {S : Ctx} {e : Expr} {m : M Bool} (vs ks : List Nat) (h : SW S e m) : SW S e (bwT vs ks m) := .of fun σ env Z H F I Q mm hm k kx kb => by
  unfold bwT at hm
  split at hm
  · rename_i hno
    obtain ⟨Z1, F1, I1, s1⟩ := frzE_ok vs I
    obtain ⟨F2, I2⟩ := killE_ok ks I1
    have no := I2.noOwn hno
    refine h σ _ Z1 H F2 I2 Q (fun r env' q Z' H' F'' I' s => ?_) (fun x env' q Z' H' F'' cls d I' s hx => ?_) fun q => kb (by rw [hm, q])
    · rw [q] at hm
      obtain ⟨⟨A1, A2⟩, _⟩ := view_back I I1 s1 no s I'.sub
      exact k _ _ hm Z H' F A1 A2
    · rw [q] at hm
      obtain ⟨_, B1, B2⟩ := view_back I I1 s1 no s I'.sub
      exact kx x _ hm Z' H' F1 cls d B1 B2 hx
  · exact absurd hm kb
theorem ownOf_snd (vs : List Nat) : (ownOf T vs).map (·.2) = vs := by
  unfold ownOf
  rw [List.map_map]
  exact List.map_id vs
mutual
theorem sv_ev : ∀ (e : Ex') (S : Ctx) (p : Expr), Good T ρ S → mE T S.scope e p = true → SV S p (ev ρ e)
  | .var i, S, p, g, h => by
    cases p with
    | Name x pos => simp only [mE] at h; simp only [ev]; exact sv_var (okVar_ok g h)
    | _ => simp [mE] at h
  | .mv i, S, p, g, h => by
    cases p with
    | Name x pos => simp only [mE] at h; simp only [ev]; exact sv_mv (okVar_ok g h)
    | _ => simp [mE] at h
  | .bw vs ks e, S, p, g, h => by
    simp only [mE] at h; simp only [ev]
    exact sv_bw vs ks (sv_ev e S p g h)
  | .int i, S, p, g, h => by
    cases p with
    | Constant c k pos =>
      cases c with
      | int j => simp only [mE, beq_iff_eq] at h; subst h; simp only [ev]; exact sd_int.v
      | _ => simp [mE] at h
    | _ => simp [mE] at h
  | .bl b, S, p, g, h => by
    cases p with
    | Constant c k pos =>
      cases c with
      | bool j => simp only [mE, beq_iff_eq] at h; subst h; simp only [ev]; exact sd_bl.v
      | _ => simp [mE] at h
    | _ => simp [mE] at h
  | .non, S, p, g, h => by
    cases p with
    | Constant c k pos =>
      cases c with
      | none => simp only [ev]; exact sd_non.v
      | _ => simp [mE] at h
    | _ => simp [mE] at h
  | .str x, S, p, g, h => by
    cases p with
    | Constant c k pos =>
      cases c with
      | str j =>
        simp only [mE, Bool.and_eq_true, beq_iff_eq] at h
        obtain ⟨rfl, h⟩ := h
        simp only [ev]; exact (sd_str (strG_of h)).v
      | _ => simp [mE] at h
    | _ => simp [mE] at h
  | .gi i, S, p, g, h => by
    cases p with
    | Name x pos =>
      simp only [mE, Bool.and_eq_true] at h
      obtain ⟨h1, h2⟩ := okGl_ok h.1
      obtain ⟨t, ht⟩ := g.ci x i h.2
      simp only [ev]; exact (sd_gi h1 ht h2).v
    | _ => simp [mE] at h
  | .gs y, S, p, g, h => by
    cases p with
    | Name x pos =>
      simp only [mE, Bool.and_eq_true] at h
      obtain ⟨h1, h2⟩ := okGl_ok h.1.1
      obtain ⟨t, ht⟩ := g.cs x y h.1.2
      simp only [ev]; exact (sd_gs h1 ht (strG_of h.2) h2).v
    | _ => simp [mE] at h
  | .bin op a b, S, p, g, h => by
    cases p with
    | BinOp p o q pos =>
      simp only [mE, Bool.and_eq_true, beq_iff_eq] at h
      obtain ⟨⟨rfl, h1⟩, h2⟩ := h
      simp only [ev]; exact sv_bin (sv_ev a S p g h1).d (sv_ev b S q g h2).d (ok_bin op)
    | _ => simp [mE] at h
  | .neg a, S, p, g, h => by
    cases p with
    | UnaryOp o p pos =>
      cases o with
      | USub => simp only [mE] at h; simp only [ev]; exact sv_neg (sv_ev a S p g h).d
      | _ => simp [mE] at h
    | _ => simp [mE] at h
  | .cmp op a b, S, p, g, h => by
    cases p with
    | Compare p os qs pos =>
      match os, qs, h with
      | [o], [q], h =>
        simp only [mE, Bool.and_eq_true, beq_iff_eq] at h
        obtain ⟨⟨⟨rfl, h1⟩, h2⟩, h3⟩ := h
        simp only [ev]
        exact (sd_cmp (sv_ev a S p g h1).d (sv_ev b S q g h2).d (notSet_of h3)).v.congr fun env => by cases cmp2 (fun env => (ev ρ a env).d) (fun env => (ev ρ b env).d) (cmpD op) env <;> rfl
      | [], _, h => simp [mE] at h
      | _ :: _ :: _, [], h => simp [mE] at h
      | _ :: _ :: _, [_], h => simp [mE] at h
      | _ :: _ :: _, _ :: _ :: _, h => simp [mE] at h
      | [_], [], h => simp [mE] at h
      | [_], _ :: _ :: _, h => simp [mE] at h
    | _ => simp [mE] at h
  | .chain o1 o2 a b c, S, p, g, h => by
    cases p with
    | Compare p os qs pos =>
      match os, qs, h with
      | [o, o'], [q, r], h =>
        simp only [mE, Bool.and_eq_true, beq_iff_eq] at h
        obtain ⟨⟨⟨⟨⟨rfl, rfl⟩, h1⟩, h2⟩, h3⟩, h4⟩ := h
        simp only [ev]
        exact (sd_chain (sv_ev a S p g h1).d (sv_ev b S q g h2).d (sv_ev c S r g h3).d (notSet_of h4)).v.congr fun env => by cases chain2 (fun env => (ev ρ a env).d) (fun env => (ev ρ b env).d) (fun env => (ev ρ c env).d) (cmpD o1) (cmpD o2) env <;> rfl
      | [], _, h => simp [mE] at h
      | [_], _, h => simp [mE] at h
      | _ :: _ :: _ :: _, _, h => simp [mE] at h
      | [_, _], [], h => simp [mE] at h
      | [_, _], [_], h => simp [mE] at h
      | [_, _], _ :: _ :: _ :: _, h => simp [mE] at h
    | _ => simp [mE] at h
  | .one a, S, p, g, h => by
    cases p with
    | BoolOp o ps pos =>
      match ps, h with
      | [p], h => simp only [mE] at h; simp only [ev]; exact (sd_one (sv_ev a S p g h).d).v
      | [], h => simp [mE] at h
      | _ :: _ :: _, h => simp [mE] at h
    | _ => simp [mE] at h
  | .and a b, S, p, g, h => by
    cases p with
    | BoolOp o ps pos =>
      cases o with
      | And =>
        match ps, h with
        | p :: q :: r, h =>
          simp only [mE, Bool.and_eq_true] at h
          simp only [ev]
          exact (sd_and (sv_ev a S p g h.1).d (sv_ev b S (.BoolOp .And (q :: r) pos) g h.2).d).v
        | [], h => simp [mE] at h
        | [_], h => simp [mE] at h
      | Or => simp [mE] at h
    | _ => simp [mE] at h
  | .or a b, S, p, g, h => by
    cases p with
    | BoolOp o ps pos =>
      cases o with
      | Or =>
        match ps, h with
        | p :: q :: r, h =>
          simp only [mE, Bool.and_eq_true] at h
          simp only [ev]
          exact (sd_or (sv_ev a S p g h.1).d (sv_ev b S (.BoolOp .Or (q :: r) pos) g h.2).d).v
        | [], h => simp [mE] at h
        | [_], h => simp [mE] at h
      | And => simp [mE] at h
    | _ => simp [mE] at h
  | .not a, S, p, g, h => by
    cases p with
    | UnaryOp o p pos =>
      cases o with
      | Not => simp only [mE] at h; simp only [ev]; exact (sd_not (sv_ev a S p g h).d).v
      | _ => simp [mE] at h
    | _ => simp [mE] at h
  | .ite c a b, S, p, g, h => by
    cases p with
    | IfExp r p q pos =>
      simp only [mE, Bool.and_eq_true] at h
      simp only [ev]; exact sv_ite (sb_ev c S r g h.1.1) (sv_ev a S p g h.1.2) (sv_ev b S q g h.2)
    | _ => simp [mE] at h
  | .tup es, S, p, g, h => by
    cases p with
    | Tuple ps k pos => simp only [mE] at h; simp only [ev]; exact (sd_tup (sl_ev es S ps g h)).v
    | _ => simp [mE] at h
  | .lst es, S, p, g, h => by
    cases p with
    | List ps pos => simp only [mE] at h; simp only [ev]; exact sv_lst (so_ev es S ps g h)
    | _ => simp [mE] at h
  | .ix a b, S, p, g, h => by
    cases p with
    | Subscript p q pos =>
      simp only [mE, Bool.and_eq_true] at h
      simp only [ev]; exact (sd_ix (sv_ev a S p g h.1.1).d (sv_ev b S q g h.1.2).d (notSl_of h.2)).v
    | _ => simp [mE] at h
  | .slc a lo hi, S, p, g, h => by
    cases p with
    | Subscript p q pos =>
      cases q with
      | Slice l u st p2 =>
        cases st with
        | none =>
          simp only [mE, Bool.and_eq_true] at h
          simp only [ev]; exact sv_slice (sv_ev a S p g h.1.1).d (sp_ev lo S l g h.1.2) (sp_ev hi S u g h.2)
        | some _ => simp [mE] at h
      | _ => simp [mE] at h
    | _ => simp [mE] at h
  | .call f as, S, p, g, h => by
    cases p with
    | Call fn ps ks pos =>
      cases fn with
      | Name x p2 =>
        match ps, ks, h with
        | p :: ps, [], h =>
          simp only [mE, Bool.and_eq_true] at h
          obtain ⟨⟨h1, h2⟩, h3⟩ := h
          cases q : T.fs[f]? with
          | none => rw [q] at h3; cases h3
          | some yn =>
            obtain ⟨y, n⟩ := yn
            rw [q] at h3
            simp only [Bool.and_eq_true, beq_iff_eq] at h3
            obtain ⟨rfl, rfl⟩ := h3
            obtain ⟨g1, g2⟩ := okGl_ok h1
            obtain ⟨a1, a2⟩ := mA_star (ρ := ρ) h2
            have hf := g.fs f x _ q
            rw [← a2] at hf
            simp only [ev]; exact sv_call hf g1 g2 (sa_ev as S _ g h2) a1
        | [], _, h => simp [mE] at h
        | _ :: _, _ :: _, h => simp [mE] at h
      | _ => simp [mE] at h
    | _ => simp [mE] at h
  | .blt b es, S, p, g, h => by
    cases p with
    | Call fn ps ks pos =>
      cases fn with
      | Name x p2 =>
        match ps, ks, h with
        | p :: ps, [], h =>
          simp only [mE, Bool.and_eq_true, beq_iff_eq] at h
          obtain ⟨⟨rfl, h2⟩, h3⟩ := h
          simp only [ev]; exact sv_blt (okBl_ok g h2) b.kind b.boot b.ne b.nd (ok_bf b) (sl_ev es S _ g h3) (mEs_star h3)
        | [], _, h => simp [mE] at h
        | _ :: _, _ :: _, h => simp [mE] at h
      | _ => simp [mE] at h
    | _ => simp [mE] at h
  | .isi a t, S, p, g, h => by
    cases p with
    | Call fn ps ks pos =>
      cases fn with
      | Name x p2 =>
        match ps, ks, h with
        | [p, q], [], h =>
          cases q with
          | Name y p3 =>
            simp only [mE, Bool.and_eq_true, beq_iff_eq] at h
            obtain ⟨⟨⟨⟨⟨rfl, rfl⟩, h1⟩, h2⟩, h3⟩, h4⟩ := h
            simp only [ev]; exact (sd_isi (okBl_ok g h1) (okBl_ok g h2) (sv_ev a S p g h3).d h4).v
          | _ => simp [mE] at h
        | [], _, h => simp [mE] at h
        | [_], _, h => simp [mE] at h
        | _ :: _ :: _ :: _, _, h => simp [mE] at h
        | [_, _], _ :: _, h => simp [mE] at h
      | _ => simp [mE] at h
    | _ => simp [mE] at h
  | .lsc i, S, p, g, h => by
    cases p with
    | Call fn ps ks pos =>
      cases fn with
      | Name x p2 =>
        match ps, ks, h with
        | [q], [], h =>
          cases q with
          | Name y p3 =>
            simp only [mE, Bool.and_eq_true, beq_iff_eq] at h
            obtain ⟨⟨rfl, h1⟩, h2⟩ := h
            simp only [ev]; exact sv_lsc (okBl_ok g h1) (okVar_ok g h2)
          | _ => simp [mE] at h
        | [], _, h => simp [mE] at h
        | _ :: _ :: _, _, h => simp [mE] at h
        | [_], _ :: _, h => simp [mE] at h
      | _ => simp [mE] at h
    | _ => simp [mE] at h
  | .lc elt tg it c vs, S, p, g, h => by
    cases p with
    | ListComp e gs scope pos =>
      match gs, h with
      | [⟨g1, t, ifs, isA⟩], h =>
        simp only [mE, Bool.and_eq_true, beq_iff_eq] at h
        obtain ⟨⟨⟨⟨⟨⟨⟨rfl, h1⟩, h2⟩, h3⟩, h4⟩, h5⟩, h6⟩, h7⟩ := h
        have gb := g.blk scope
        have ok : BlkOk S.N S.scope scope (ownOf T vs) := by rw [g.N]; exact blkOk_by h1
        have hg : SG (S.blk scope) g1 tg.js (bdG tg) := mG_ok gb h4
        have ht : STs (S.blk scope) ifs (evC ρ c) := sc_ev c (S.blk scope) ifs gb h6
        have he : SD (S.blk scope) e (fun env => (ev ρ elt env).d) := (sv_ev elt (S.blk scope) e gb h7).d
        have hj : ∀ j, j ∈ tg.js → j ∈ (ownOf T vs).map (·.2) := fun j hj => by
          rw [ownOf_snd]
          exact List.contains_iff_mem.mp (List.all_eq_true.mp h5 j hj)
        have := sv_lc (pos := pos) (si_ev it S g1 t g h2) (by rw [g.N]; exact g.nd) ok hj hg ht he h3
        rw [ownOf_snd] at this
        simp only [ev]; exact this
      | [], h => simp [mE] at h
      | _ :: _ :: _, h => simp [mE] at h
    | _ => simp [mE] at h
  | .app i e, S, p, g, h => by
    cases p with
    | Call fn ps ks pos =>
      cases fn with
      | Attribute o m ap =>
        cases o with
        | Name x p2 =>
          match ps, ks, h with
          | [q], [], h =>
            simp only [mE, Bool.and_eq_true, beq_iff_eq] at h
            obtain ⟨⟨⟨⟨rfl, h1⟩, h2⟩, h3⟩, h4⟩ := h
            simp only [ev]; exact sv_app (okVar_ok g h1) (sv_ev e S q g h2) h3 (by simpa using h4)
          | [], _, h => simp [mE] at h
          | _ :: _ :: _, _, h => simp [mE] at h
          | [_], _ :: _, h => simp [mE] at h
        | _ => simp [mE] at h
      | _ => simp [mE] at h
    | _ => simp [mE] at h
  | .ext i e, S, p, g, h => by
    cases p with
    | Call fn ps ks pos =>
      cases fn with
      | Attribute o m ap =>
        cases o with
        | Name x p2 =>
          match ps, ks, h with
          | [q], [], h =>
            simp only [mE, Bool.and_eq_true, beq_iff_eq] at h
            obtain ⟨⟨⟨⟨rfl, h1⟩, h2⟩, h3⟩, h4⟩ := h
            simp only [ev]; exact sv_ext (okVar_ok g h1) (sv_ev e S q g h2).d h3 (by simpa using h4)
          | [], _, h => simp [mE] at h
          | _ :: _ :: _, _, h => simp [mE] at h
          | [_], _ :: _, h => simp [mE] at h
        | _ => simp [mE] at h
      | _ => simp [mE] at h
    | _ => simp [mE] at h
  | .popAt i e, S, p, g, h => by
    cases p with
    | Call fn ps ks pos =>
      cases fn with
      | Attribute o m ap =>
        cases o with
        | Name x p2 =>
          match ps, ks, h with
          | [q], [], h =>
            simp only [mE, Bool.and_eq_true, beq_iff_eq] at h
            obtain ⟨⟨⟨⟨rfl, h1⟩, h2⟩, h3⟩, h4⟩ := h
            simp only [ev]; exact sv_popAt (okVar_ok g h1) (sv_ev e S q g h2).d h3 (by simpa using h4)
          | [], _, h => simp [mE] at h
          | _ :: _ :: _, _, h => simp [mE] at h
          | [_], _ :: _, h => simp [mE] at h
        | _ => simp [mE] at h
      | _ => simp [mE] at h
    | _ => simp [mE] at h
  | .pop i, S, p, g, h => by
    cases p with
    | Call fn ps ks pos =>
      cases fn with
      | Attribute o m ap =>
        cases o with
        | Name x p2 =>
          match ps, ks, h with
          | [], [], h =>
            simp only [mE, Bool.and_eq_true, beq_iff_eq] at h
            obtain ⟨⟨rfl, h1⟩, h4⟩ := h
            simp only [ev]; exact sv_pop (okVar_ok g h1) (by simpa using h4)
          | _ :: _, _, h => simp [mE] at h
          | [], _ :: _, h => simp [mE] at h
        | _ => simp [mE] at h
      | _ => simp [mE] at h
    | _ => simp [mE] at h
theorem sb_ev : ∀ (e : Ex') (S : Ctx) (p : Expr), Good T ρ S → mE T S.scope e p = true → SB S p (evT ρ e)
  | .bw vs ks e, S, p, g, h => by
    simp only [mE] at h; simp only [evT]
    exact sb_bw vs ks (sb_ev e S p g h)
  | .cmp op a b, S, p, g, h => by
    cases p with
    | Compare p os qs pos =>
      match os, qs, h with
      | [o], [q], h =>
        simp only [mE, Bool.and_eq_true, beq_iff_eq] at h
        obtain ⟨⟨⟨rfl, h1⟩, h2⟩, h3⟩ := h
        simp only [evT]
        exact sb_cmp (sv_ev a S p g h1).d (sv_ev b S q g h2).d (notSet_of h3)
      | [], _, h => simp [mE] at h
      | _ :: _ :: _, [], h => simp [mE] at h
      | _ :: _ :: _, [_], h => simp [mE] at h
      | _ :: _ :: _, _ :: _ :: _, h => simp [mE] at h
      | [_], [], h => simp [mE] at h
      | [_], _ :: _ :: _, h => simp [mE] at h
    | _ => simp [mE] at h
  | .chain o1 o2 a b c, S, p, g, h => by
    cases p with
    | Compare p os qs pos =>
      match os, qs, h with
      | [o, o'], [q, r], h =>
        simp only [mE, Bool.and_eq_true, beq_iff_eq] at h
        obtain ⟨⟨⟨⟨⟨rfl, rfl⟩, h1⟩, h2⟩, h3⟩, h4⟩ := h
        simp only [evT]
        exact sb_chain (sv_ev a S p g h1).d (sv_ev b S q g h2).d (sv_ev c S r g h3).d (notSet_of h4)
      | [], _, h => simp [mE] at h
      | [_], _, h => simp [mE] at h
      | _ :: _ :: _ :: _, _, h => simp [mE] at h
      | [_, _], [], h => simp [mE] at h
      | [_, _], [_], h => simp [mE] at h
      | [_, _], _ :: _ :: _ :: _, h => simp [mE] at h
    | _ => simp [mE] at h
  | .one a, S, p, g, h => by
    cases p with
    | BoolOp o ps pos =>
      match ps, h with
      | [q], h =>
        have hq : mE T S.scope a q = true := by simp only [mE] at h; exact h
        simp only [evT]
        cases o with
        | And => exact (sw_and1 (sb_ev a S q g hq)).sb
        | Or => exact (sw_or1 (sb_ev a S q g hq)).sb
      | [], h => simp [mE] at h
      | _ :: _ :: _, h => simp [mE] at h
    | _ => simp [mE] at h
  | .and a b, S, p, g, h => by
    cases p with
    | BoolOp o ps pos =>
      cases o with
      | And =>
        match ps, h with
        | p :: q :: r, h =>
          simp only [mE, Bool.and_eq_true] at h
          simp only [evT]
          exact (sw_and (sb_ev a S p g h.1) (sw_ev b S .And (q :: r) pos g h.2)).sb
        | [], h => simp [mE] at h
        | [_], h => simp [mE] at h
      | Or => simp [mE] at h
    | _ => simp [mE] at h
  | .or a b, S, p, g, h => by
    cases p with
    | BoolOp o ps pos =>
      cases o with
      | Or =>
        match ps, h with
        | p :: q :: r, h =>
          simp only [mE, Bool.and_eq_true] at h
          simp only [evT]
          exact (sw_or (sb_ev a S p g h.1) (sw_ev b S .Or (q :: r) pos g h.2)).sb
        | [], h => simp [mE] at h
        | [_], h => simp [mE] at h
      | And => simp [mE] at h
    | _ => simp [mE] at h
  | .not a, S, p, g, h => by
    cases p with
    | UnaryOp o p pos =>
      cases o with
      | Not => simp only [mE] at h; simp only [evT]; exact sb_not (sb_ev a S p g h)
      | _ => simp [mE] at h
    | _ => simp [mE] at h
  | .ite c a b, S, p, g, h => by
    simp only [evT]
    exact fun σ env Z H F I Q k kx kb => absurd rfl kb
  | .var i, S, p, g, h => by simp only [evT]; exact (sv_ev (.var i) S p g h).d.tst (by cases p <;> first | rfl | (simp [mE] at h))
  | .mv i, S, p, g, h => by simp only [evT]; exact (sv_ev (.mv i) S p g h).d.tst (by cases p <;> first | rfl | (simp [mE] at h))
  | .int i, S, p, g, h => by simp only [evT]; exact (sv_ev (.int i) S p g h).d.tst (by cases p <;> first | rfl | (simp [mE] at h))
  | .bl i, S, p, g, h => by simp only [evT]; exact (sv_ev (.bl i) S p g h).d.tst (by cases p <;> first | rfl | (simp [mE] at h))
  | .non, S, p, g, h => by simp only [evT]; exact (sv_ev .non S p g h).d.tst (by cases p <;> first | rfl | (simp [mE] at h))
  | .str i, S, p, g, h => by simp only [evT]; exact (sv_ev (.str i) S p g h).d.tst (by cases p <;> first | rfl | (simp [mE] at h))
  | .gi i, S, p, g, h => by simp only [evT]; exact (sv_ev (.gi i) S p g h).d.tst (by cases p <;> first | rfl | (simp [mE] at h))
  | .gs i, S, p, g, h => by simp only [evT]; exact (sv_ev (.gs i) S p g h).d.tst (by cases p <;> first | rfl | (simp [mE] at h))
  | .bin op a b, S, p, g, h => by simp only [evT]; exact (sv_ev (.bin op a b) S p g h).d.tst (by cases p <;> first | rfl | (simp [mE] at h))
  | .neg a, S, p, g, h => by
    simp only [evT]
    refine (sv_ev (.neg a) S p g h).d.tst ?_
    cases p with
    | UnaryOp o _ _ => cases o <;> first | rfl | (simp [mE] at h)
    | _ => first | rfl | (simp [mE] at h)
  | .tup es, S, p, g, h => by simp only [evT]; exact (sv_ev (.tup es) S p g h).d.tst (by cases p <;> first | rfl | (simp [mE] at h))
  | .lst es, S, p, g, h => by simp only [evT]; exact (sv_ev (.lst es) S p g h).d.tst (by cases p <;> first | rfl | (simp [mE] at h))
  | .ix a b, S, p, g, h => by simp only [evT]; exact (sv_ev (.ix a b) S p g h).d.tst (by cases p <;> first | rfl | (simp [mE] at h))
  | .slc a lo hi, S, p, g, h => by simp only [evT]; exact (sv_ev (.slc a lo hi) S p g h).d.tst (by cases p <;> first | rfl | (simp [mE] at h))
  | .call f as, S, p, g, h => by simp only [evT]; exact (sv_ev (.call f as) S p g h).d.tst (by cases p <;> first | rfl | (simp [mE] at h))
  | .blt b es, S, p, g, h => by simp only [evT]; exact (sv_ev (.blt b es) S p g h).d.tst (by cases p <;> first | rfl | (simp [mE] at h))
  | .isi a t, S, p, g, h => by simp only [evT]; exact (sv_ev (.isi a t) S p g h).d.tst (by cases p <;> first | rfl | (simp [mE] at h))
  | .lsc i, S, p, g, h => by simp only [evT]; exact (sv_ev (.lsc i) S p g h).d.tst (by cases p <;> first | rfl | (simp [mE] at h))
  | .lc elt tg it c vs, S, p, g, h => by simp only [evT]; exact (sv_ev (.lc elt tg it c vs) S p g h).d.tst (by cases p <;> first | rfl | (simp [mE] at h))
  | .app i e, S, p, g, h => by simp only [evT]; exact (sv_ev (.app i e) S p g h).d.tst (by cases p <;> first | rfl | (simp [mE] at h))
  | .ext i e, S, p, g, h => by simp only [evT]; exact (sv_ev (.ext i e) S p g h).d.tst (by cases p <;> first | rfl | (simp [mE] at h))
  | .popAt i e, S, p, g, h => by simp only [evT]; exact (sv_ev (.popAt i e) S p g h).d.tst (by cases p <;> first | rfl | (simp [mE] at h))
  | .pop i, S, p, g, h => by simp only [evT]; exact (sv_ev (.pop i) S p g h).d.tst (by cases p <;> first | rfl | (simp [mE] at h))
/-- the rest of an and, of an or -/
theorem sw_ev : ∀ (e : Ex') (S : Ctx) (o : BoolOp) (ps : List Expr) (pos : Pos), Good T ρ S → mE T S.scope e (.BoolOp o ps pos) = true → SW S (.BoolOp o ps pos) (evT ρ e)
  | .one a, S, o, ps, pos, g, h => by
    match ps, h with
    | [q], h =>
      have hq : mE T S.scope a q = true := by simp only [mE] at h; exact h
      simp only [evT]
      cases o with
      | And => exact sw_and1 (sb_ev a S q g hq)
      | Or => exact sw_or1 (sb_ev a S q g hq)
    | [], h => simp [mE] at h
    | _ :: _ :: _, h => simp [mE] at h
  | .and a b, S, o, ps, pos, g, h => by
    cases o with
    | And =>
      match ps, h with
      | p :: q :: r, h =>
        simp only [mE, Bool.and_eq_true] at h
        simp only [evT]
        exact sw_and (sb_ev a S p g h.1) (sw_ev b S .And (q :: r) pos g h.2)
      | [], h => simp [mE] at h
      | [_], h => simp [mE] at h
    | Or => simp [mE] at h
  | .or a b, S, o, ps, pos, g, h => by
    cases o with
    | Or =>
      match ps, h with
      | p :: q :: r, h =>
        simp only [mE, Bool.and_eq_true] at h
        simp only [evT]
        exact sw_or (sb_ev a S p g h.1) (sw_ev b S .Or (q :: r) pos g h.2)
      | [], h => simp [mE] at h
      | [_], h => simp [mE] at h
    | And => simp [mE] at h
  | .bw vs ks e, S, o, ps, pos, g, h => by
    simp only [mE] at h; simp only [evT]
    exact sw_bw vs ks (sw_ev e S o ps pos g h)
  | .var _, _, _, _, _, _, h => by simp [mE] at h
  | .mv _, _, _, _, _, _, h => by simp [mE] at h
  | .int _, _, _, _, _, _, h => by simp [mE] at h
  | .bl _, _, _, _, _, _, h => by simp [mE] at h
  | .non, _, _, _, _, _, h => by simp [mE] at h
  | .str _, _, _, _, _, _, h => by simp [mE] at h
  | .gi _, _, _, _, _, _, h => by simp [mE] at h
  | .gs _, _, _, _, _, _, h => by simp [mE] at h
  | .bin _ _ _, _, _, _, _, _, h => by simp [mE] at h
  | .neg _, _, _, _, _, _, h => by simp [mE] at h
  | .cmp _ _ _, _, _, _, _, _, h => by simp [mE] at h
  | .chain _ _ _ _ _, _, _, _, _, _, h => by simp [mE] at h
  | .not _, _, _, _, _, _, h => by simp [mE] at h
  | .ite _ _ _, _, _, _, _, _, h => by simp [mE] at h
  | .tup _, _, _, _, _, _, h => by simp [mE] at h
  | .lst _, _, _, _, _, _, h => by simp [mE] at h
  | .ix _ _, _, _, _, _, _, h => by simp [mE] at h
  | .slc _ _ _, _, _, _, _, _, h => by simp [mE] at h
  | .call _ _, _, _, _, _, _, h => by simp [mE] at h
  | .blt _ _, _, _, _, _, _, h => by simp [mE] at h
  | .isi _ _, _, _, _, _, _, h => by simp [mE] at h
  | .lsc _, _, _, _, _, _, h => by simp [mE] at h
  | .lc _ _ _ _ _, _, _, _, _, _, h => by simp [mE] at h
  | .app _ _, _, _, _, _, _, h => by simp [mE] at h
  | .ext _ _, _, _, _, _, _, h => by simp [mE] at h
  | .popAt _ _, _, _, _, _, _, h => by simp [mE] at h
  | .pop _, _, _, _, _, _, h => by simp [mE] at h
theorem sl_ev : ∀ (es : Exs) (S : Ctx) (ps : List Expr), Good T ρ S → mEs T S.scope es ps = true → SL S ps (evs ρ es)
  | .nil, S, ps, g, h => by
    cases ps with
    | nil => simp only [evs]; exact sl_nil
    | cons _ _ => simp [mEs] at h
  | .cons e es, S, ps, g, h => by
    cases ps with
    | nil => simp [mEs] at h
    | cons p ps =>
      simp only [mEs, Bool.and_eq_true] at h
      simp only [evs]; exact sl_cons (sv_ev e S p g h.1.1).d (sl_ev es S ps g h.2) h.1.2
theorem so_ev : ∀ (es : Exs) (S : Ctx) (ps : List Expr), Good T ρ S → mEs T S.scope es ps = true → SO S ps (evO ρ es)
  | .nil, S, ps, g, h => by
    cases ps with
    | nil => simp only [evO]; exact so_nil
    | cons _ _ => simp [mEs] at h
  | .cons e es, S, ps, g, h => by
    cases ps with
    | nil => simp [mEs] at h
    | cons p ps =>
      simp only [mEs, Bool.and_eq_true] at h
      simp only [evO]; exact so_cons (sv_ev e S p g h.1.1) (so_ev es S ps g h.2) h.1.2
theorem sa_ev : ∀ (as : Args) (S : Ctx) (ps : List Expr), Good T ρ S → mA T S.scope as ps = true → SAr S ps (evA ρ as)
  | .nil, S, ps, g, h => by
    cases ps with
    | nil => simp only [evA]; exact sar_nil
    | cons _ _ => simp [mA] at h
  | .e a r, S, ps, g, h => by
    cases ps with
    | nil => simp [mA] at h
    | cons p ps =>
      simp only [mA, Bool.and_eq_true] at h
      simp only [evA]; exact sar_e (sv_ev a S p g h.1.1).d (sa_ev r S ps g h.2) h.1.2
  | .o i r, S, ps, g, h => by
    cases ps with
    | nil => simp [mA] at h
    | cons p ps =>
      cases p with
      | Name x pos =>
        simp only [mA, Bool.and_eq_true] at h
        simp only [evA]; exact sar_o (okVar_ok g h.1) (sa_ev r S ps g h.2)
      | _ => simp [mA] at h
theorem sp_ev : ∀ (o : Opt) (S : Ctx) (p : Option Expr), Good T ρ S → mO T S.scope o p = true → SP' S p (evP ρ o)
  | .no, S, p, g, h => by
    cases p with
    | none => simp only [evP]; exact sp_none
    | some _ => simp [mO] at h
  | .yes e, S, p, g, h => by
    cases p with
    | none => simp [mO] at h
    | some p => simp only [mO] at h; simp only [evP]; exact sp_some (sv_ev e S p g h).d
theorem sc_ev : ∀ (o : Opt) (S : Ctx) (ps : List Expr), Good T ρ S → mC T S.scope o ps = true → STs S ps (evC ρ o)
  | .no, S, ps, g, h => by
    cases ps with
    | nil => simp only [evC]; exact sts_nil
    | cons _ _ => simp [mC] at h
  | .yes e, S, ps, g, h => by
    match ps, h with
    | [p], h => simp only [mC] at h; simp only [evC]; exact sts_one (sb_ev e S p g h)
    | [], h => simp [mC] at h
    | _ :: _ :: _, h => simp [mC] at h
theorem si_ev : ∀ (it : Itr') (S : Ctx) (tg p : Expr), Good T ρ S → mI T S.scope it p = true → SIt S tg p (evI ρ it)
  | .e a, S, tg, p, g, h => by simp only [mI] at h; simp only [evI]; exact si_e (sv_ev a S p g h).d
  | .r1 a, S, tg, p, g, h => by
    cases p with
    | Call fn ps ks pos =>
      cases fn with
      | Name x p2 =>
        match ps, ks, h with
        | [p], [], h =>
          simp only [mI, Bool.and_eq_true, beq_iff_eq] at h
          obtain ⟨⟨⟨rfl, h1⟩, h2⟩, h3⟩ := h
          simp only [evI]; exact si_rng1 (okBl_ok g h1) (sv_ev a S p g h2).d h3
        | [], _, h => simp [mI] at h
        | _ :: _ :: _, _, h => simp [mI] at h
        | [_], _ :: _, h => simp [mI] at h
      | _ => simp [mI] at h
    | _ => simp [mI] at h
  | .r2 a b, S, tg, p, g, h => by
    cases p with
    | Call fn ps ks pos =>
      cases fn with
      | Name x p2 =>
        match ps, ks, h with
        | [p, q], [], h =>
          simp only [mI, Bool.and_eq_true, beq_iff_eq] at h
          obtain ⟨⟨⟨⟨⟨rfl, h1⟩, h2⟩, h3⟩, h4⟩, h5⟩ := h
          simp only [evI]; exact si_rng2 (okBl_ok g h1) (sv_ev a S p g h2).d (sv_ev b S q g h3).d h4 h5
        | [], _, h => simp [mI] at h
        | [_], _, h => simp [mI] at h
        | _ :: _ :: _ :: _, _, h => simp [mI] at h
        | [_, _], _ :: _, h => simp [mI] at h
      | _ => simp [mI] at h
    | _ => simp [mI] at h
end
theorem mS_two {T : Tab} {sc : Scope} {fn : Str → Bool} {i : Nat} {e : Ex'} {a b : Expr} {c : List Expr} {v : Expr} {pos : Pos} (h : mS T sc fn (.asg i e) (.Assign (a :: b :: c) v pos) = true) : False := by
  have : mS T sc fn (.asg i e) (.Assign (a :: b :: c) v pos) = false := by cases a <;> rfl
  rw [this] at h; cases h
theorem mS_two' {T : Tab} {sc : Scope} {fn : Str → Bool} {i : Nat} {j e : Ex'} {a b : Expr} {c : List Expr} {v : Expr} {pos : Pos} (h : mS T sc fn (.set i j e) (.Assign (a :: b :: c) v pos) = true) : False := by
  have : mS T sc fn (.set i j e) (.Assign (a :: b :: c) v pos) = false := by
    cases a with
    | Subscript o _ _ => cases o <;> rfl
    | _ => rfl
  rw [this] at h; cases h
mutual
theorem ss_ev : ∀ (s : St') (S : Ctx) (own : List Nat) (p : Stmt), Good T ρ S → S.scope.kind = .function → mS T S.scope S.fn s p = true → SS S own p (exS ρ own s)
  | .pass, S, own, p, g, hk, h => by
    cases p with
    | Pass pos => simp only [exS]; exact ss_pass
    | _ => simp [mS] at h
  | .asg i e, S, own, p, g, hk, h => by
    cases p with
    | Assign ts v pos =>
      match ts, h with
      | [t], h =>
        cases t with
        | Name x p2 =>
          simp only [mS, Bool.and_eq_true] at h
          obtain ⟨⟨h1, h2⟩, h3⟩ := h
          simp only [exS]
          by_cases hc : notComp v = true
          · exact ss_asg (okSto_ok g h1) (sv_ev e S v g h2) hc
          · cases v with
            | ListComp elt gs scope p3 =>
              match gs, h2, h3 with
              | [⟨g1, t, ifs, isA⟩], h2, h3 =>
                cases e with
                | lc elt' tg it c vs =>
                  simp only [mE, Bool.and_eq_true, beq_iff_eq] at h2
                  obtain ⟨⟨⟨⟨⟨⟨⟨rfl, a1⟩, a2⟩, a3⟩, a4⟩, a5⟩, a6⟩, a7⟩ := h2
                  have gb := g.blk scope
                  have ok : BlkOk S.N S.scope scope (ownOf T vs) := by rw [g.N]; exact blkOk_by a1
                  have hj : ∀ j, j ∈ tg.js → j ∈ (ownOf T vs).map (·.2) := fun j hj => by
                    rw [ownOf_snd]
                    exact List.contains_iff_mem.mp (List.all_eq_true.mp a5 j hj)
                  have := ss_asgC (own := own) (py := p2) (p2 := p3) (spos := pos) (okSto_ok g h1) hk (si_ev it S g1 t g a2) (by rw [g.N]; exact g.nd) ok hj (mG_ok gb a4) (sc_ev c (S.blk scope) ifs gb a6) (sv_ev elt' (S.blk scope) elt gb a7).d a3
                  rw [ownOf_snd] at this
                  simp only [ev]; exact this
                | _ => exact absurd h3 (by simp [notComp])
              | [], _, h3 => exact absurd h3 (by simp [notComp])
              | _ :: _ :: _, _, h3 => exact absurd h3 (by simp [notComp])
            | _ => first | exact absurd rfl hc | exact absurd h3 (by simp [notComp])
        | _ => simp [mS] at h
      | [], h => simp [mS] at h
      | _ :: _ :: _, h => exact (mS_two h).elim
    | _ => simp [mS] at h
  | .expr e, S, own, p, g, hk, h => by
    cases p with
    | Expr v pos =>
      simp only [mS, Bool.and_eq_true] at h
      simp only [exS]; exact ss_expr (sv_ev e S v g h.1) h.2
    | _ => simp [mS] at h
  | .ret e, S, own, p, g, hk, h => by
    cases p with
    | Return v pos =>
      cases v with
      | some v => simp only [mS] at h; simp only [exS]; exact ss_ret (sv_ev e S v g h)
      | none => simp [mS] at h
    | _ => simp [mS] at h
  | .retN, S, own, p, g, hk, h => by
    cases p with
    | Return v pos =>
      cases v with
      | none => simp only [exS]; exact ss_retN
      | some v => simp [mS] at h
    | _ => simp [mS] at h
  | .iff c a b, S, own, p, g, hk, h => by
    cases p with
    | If t x y pos =>
      simp only [mS, Bool.and_eq_true] at h
      simp only [exS]; exact ss_if (sb_ev c S t g h.1.1) (sss_ev a S own x g hk h.1.2) (sss_ev b S own y g hk h.2)
    | _ => simp [mS] at h
  | .forr tg it b, S, own, p, g, hk, h => by
    cases p with
    | For t i x oe pos =>
      cases oe with
      | nil =>
        simp only [mS, Bool.and_eq_true] at h
        obtain ⟨⟨⟨h1, h2⟩, h3⟩, h4⟩ := h
        simp only [exS]; exact ss_for (si_ev it S t i g h2) (mG_ok g h1) (sss_ev b S own x g hk h4) h3
      | cons _ _ => simp [mS] at h
    | _ => simp [mS] at h
  | .whl n c b, S, own, p, g, hk, h => by
    cases p with
    | While t x oe pos =>
      cases oe with
      | nil =>
        simp only [mS, Bool.and_eq_true] at h
        simp only [exS]; exact ss_while (sb_ev c S t g h.1) (sss_ev b S own x g hk h.2)
      | cons _ _ => simp [mS] at h
    | _ => simp [mS] at h
  | .set j i e, S, own, p, g, hk, h => by
    cases p with
    | Assign ts v pos =>
      match ts, h with
      | [t], h =>
        cases t with
        | Subscript o q p2 =>
          cases o with
          | Name x p3 =>
            simp only [mS, Bool.and_eq_true] at h
            obtain ⟨⟨⟨h1, h2⟩, h3⟩, h4⟩ := h
            simp only [exS]; exact ss_set (okVar_ok g h1) (sv_ev i S q g h2).d (sv_ev e S v g h3).d (notSl_of h4)
          | _ => simp [mS] at h
        | _ => simp [mS] at h
      | [], h => simp [mS] at h
      | _ :: _ :: _, h => exact (mS_two' h).elim
    | _ => simp [mS] at h
  | .augS j op i e, S, own, p, g, hk, h => by
    cases p with
    | AugAssign t o v pos =>
      cases t with
      | Subscript ob q p2 =>
        cases ob with
        | Name x p3 =>
          simp only [mS, Bool.and_eq_true, beq_iff_eq] at h
          obtain ⟨⟨⟨⟨h1, rfl⟩, h2⟩, h3⟩, h4⟩ := h
          simp only [exS]; exact ss_augS (okVar_ok g h1) (sv_ev i S q g h2).d (sv_ev e S v g h3).d (notSl_of h4)
        | _ => simp [mS] at h
      | _ => simp [mS] at h
    | _ => simp [mS] at h
  | .aug i op e, S, own, p, g, hk, h => by
    cases p with
    | AugAssign t o v pos =>
      cases t with
      | Name x p3 =>
        simp only [mS, Bool.and_eq_true, beq_iff_eq] at h
        obtain ⟨⟨h1, rfl⟩, h3⟩ := h
        simp only [exS]; exact ss_aug (okSto_ok g h1) (sv_ev e S v g h3).d
      | _ => simp [mS] at h
    | _ => simp [mS] at h
theorem sss_ev : ∀ (s : Sts) (S : Ctx) (own : List Nat) (ps : List Stmt), Good T ρ S → S.scope.kind = .function → mSs T S.scope S.fn s ps = true → SSs S own ps (exs ρ own s)
  | .nil, S, own, ps, g, hk, h => by
    cases ps with
    | nil => simp only [exs]; exact sss_nil
    | cons _ _ => simp [mSs] at h
  | .cons s r, S, own, ps, g, hk, h => by
    cases ps with
    | nil => simp [mSs] at h
    | cons p ps =>
      simp only [mSs, Bool.and_eq_true] at h
      simp only [exs]; exact sss_cons (ss_ev s S own p g hk h.1) (sss_ev r S own ps g hk h.2)
end
end
end Vi

set_option Elab.async false
set_option linter.all false
set_option maxRecDepth 100000
namespace Vi
open PySem L2
section
/-- a def of the module stands at level k and is worth den -/
def FnM (P : Program) (w : World) (K : PySem.W.Frag) (mg : Str → Option Value) (base : Heap) (exr : Exn → Value → Option Addr → Hp → Prop) (k : Nat) (x : Str) (np : Nat) (den : Den) : Prop :=
  ∃ (f : Addr) (fd : FuncData) (ps : List Str), mg x = some (.ref f) ∧ PySem.W.keepIn K (.ref f) = true ∧ Binds K fd ps [] ∧ ps.length = np ∧ FnOk P w K mg base (L2.CX P w) k f fd ps (spOf K exr np den)
def FsOk (P : Program) (w : World) (K : PySem.W.Frag) (mg : Str → Option Value) (base : Heap) (exr : Exn → Value → Option Addr → Hp → Prop) (k : Nat) : List (Str × Nat) → Rho → Prop
  | [], _ => True
  | (x, n) :: r, ρ => (∃ kk, kk ≤ k ∧ FnM P w K mg base exr kk x n (ρ 0)) ∧ FsOk P w K mg base exr k r fun i => ρ (i + 1)
def BlOk (mg : Str → Option Value) : List Str → Prop
  | [] => True
  | x :: r => mg x = none ∧ BlOk mg r
def CiOk (mg : Str → Option Value) : List (Str × Int) → Prop
  | [] => True
  | (x, i) :: r => (∃ t, mg x = some (.int i t)) ∧ CiOk mg r
def CsOk (mg : Str → Option Value) : List (Str × Str) → Prop
  | [] => True
  | (x, i) :: r => (∃ t, mg x = some (.str i t)) ∧ CsOk mg r
variable {P : Program} {w : World} {K : PySem.W.Frag} {mg : Str → Option Value} {base : Heap} {exr : Exn → Value → Option Addr → Hp → Prop}
theorem FsOk.at_ {k : Nat} : ∀ {l : List (Str × Nat)} {ρ : Rho}, FsOk P w K mg base exr k l ρ → ∀ f x n, l[f]? = some (x, n) → ∃ kk, kk ≤ k ∧ FnM P w K mg base exr kk x n (ρ f)
  | (y, m) :: r, ρ, h, 0, x, n, e => by
    have e : (y, m) = (x, n) := by simpa using e
    cases e; exact h.1
  | (y, m) :: r, ρ, h, f + 1, x, n, e => FsOk.at_ (ρ := fun i => ρ (i + 1)) h.2 f x n (by simpa using e)
  | [], _, _, f, x, n, e => by simp at e
theorem BlOk.at_ : ∀ {l : List Str}, BlOk mg l → ∀ x, l.contains x = true → mg x = none
  | y :: r, h, x, e => by
    rw [List.contains_cons, Bool.or_eq_true] at e
    rcases e with e | e
    · rw [beq_iff_eq] at e; subst e; exact h.1
    · exact BlOk.at_ h.2 x e
  | [], _, x, e => by simp at e
theorem CiOk.at_ : ∀ {l : List (Str × Int)}, CiOk mg l → ∀ x i, l.contains (x, i) = true → ∃ t, mg x = some (.int i t)
  | (y, j) :: r, h, x, i, e => by
    rw [List.contains_cons, Bool.or_eq_true] at e
    rcases e with e | e
    · rw [beq_iff_eq] at e; cases e; exact h.1
    · exact CiOk.at_ h.2 x i e
  | [], _, x, i, e => by simp at e
theorem CsOk.at_ : ∀ {l : List (Str × Str)}, CsOk mg l → ∀ x i, l.contains (x, i) = true → ∃ t, mg x = some (.str i t)
  | (y, j) :: r, h, x, i, e => by
    rw [List.contains_cons, Bool.or_eq_true] at e
    rcases e with e | e
    · rw [beq_iff_eq] at e; cases e; exact h.1
    · exact CsOk.at_ h.2 x i e
  | [], _, x, i, e => by simp at e
theorem good_of {T : Tab} {ρ : Rho} {scope : Scope} {k : Nat} {E : XK} (nd : T.N.Nodup) (fs : FsOk P w K mg base exr k T.fs ρ) (bl : BlOk mg T.bl) (ci : CiOk mg T.ci) (cs : CsOk mg T.cs) : Good T ρ (ctxOf P w K mg base exr T.N scope k E) where
  N := rfl
  nd := nd
  fs := fun f x n h => by
    obtain ⟨kk, hk, f', fd, ps, a1, a2, a3, a4, a5⟩ := fs.at_ f x n h
    exact ⟨f', fd, ps, kk, a1, a2, a3, a4, hk, a5⟩
  bl := fun x h => bl.at_ x h
  ci := fun x i h => ci.at_ x i h
  cs := fun x i h => cs.at_ x i h
theorem def_ok {x : Str} {st : Stmt} {f : Addr} {fd : FuncData} {T : Tab} {ps : List Str} {k : Nat} {own : List Nat} {body : Sts} {ρ : Rho} (Fn : Fun K x x st f fd) (Sc : FnScope T.N ps (defScope st)) (hm : mSs T (defScope st) (fun _ => true) body (defBody st) = true)
    (fs : FsOk P w K mg base exr k T.fs ρ) (bl : BlOk mg T.bl) (ci : CiOk mg T.ci) (cs : CsOk mg T.cs) : FnOk P w K mg base (L2.CX P w) (k + 1) f fd ps (spOf K exr ps.length (runB ps.length T.N.length own (exs ρ own body))) :=
  fn_ok Fn Sc rfl fun E => sss_ev body _ own _ (good_of Sc.nd fs bl ci cs) Sc.kind hm
theorem def_m {x : Str} {st : Stmt} {f : Addr} {fd : FuncData} {T : Tab} {ps : List Str} {k : Nat} {own : List Nat} {body : Sts} {ρ : Rho} (Fn : Fun K x x st f fd) (hg : mg x = some (.ref f)) (hb : Binds K fd ps []) (Sc : FnScope T.N ps (defScope st)) (hm : mSs T (defScope st) (fun _ => true) body (defBody st) = true)
    (fs : FsOk P w K mg base exr k T.fs ρ) (bl : BlOk mg T.bl) (ci : CiOk mg T.ci) (cs : CsOk mg T.cs) : FnM P w K mg base exr (k + 1) x ps.length (runB ps.length T.N.length own (exs ρ own body)) :=
  ⟨f, fd, ps, hg, Fn.kp, hb, rfl, def_ok Fn Sc hm fs bl ci cs⟩
/-- the law's own promise -/
def spLaw (K : PySem.W.Frag) (exr : Exn → Value → Option Addr → Hp → Prop) (den : Den) : Sp := spOf K exr 1 den
theorem law_sp {den : Den} (hden : ∀ ns : List Int, ns.length ≤ 63 → ∃ outs, den [.sc ns] = .ok (.fz (.bool true)) outs) (H : Hp) (a : Addr) (ns : List Int) (hl : ns.length ≤ 63) (hS : SqL K H a (ns.map V.int)) :
    spOf K exr 1 den [.ref a] H (fun v _ => v = .bl true) fun _ _ _ => False := by
  obtain ⟨outs, hd⟩ := hden ns hl
  refine ⟨rfl, H, [.sc ns], fun _ => [], ⟨rfl, fun b o e => e, fun i x e => ?_, fun _ _ => rfl, fun _ _ _ _ z => nomatch z⟩, fun r o q v Z' H' F' G I' o' s' => ?_, fun x o q => ?_, fun q => ?_⟩
  · cases i with
    | zero =>
      have e : OV.sc ns = x := by simpa using e
      subst e
      exact ⟨.ref a, rfl, .sc hS⟩
    | succ i => simp at e
  · rw [hd] at q
    cases q
    cases o' with
    | fz r => cases r; rfl
  · rw [hd] at q; cases q
  · rw [hd] at q; cases q
end
end Vi

set_option Elab.async false
set_option linter.all false
set_option maxRecDepth 100000
set_option maxHeartbeats 4000000
namespace Vi
open PySem L2
/-! ### evaluation, where the environment is known -/
section
variable {α β : Type} {k : α → Env → Rs β} {e l : Env} {a : α} {x : Option OV}
theorem bind_ok : (Rs.ok a e).bind k = k a e := rfl
theorem bind_bad : (Rs.bad : Rs α).bind k = .bad := rfl
theorem bind_ex {x : Exn} : (Rs.ex x e : Rs α).bind k = .ex x e := rfl
theorem so_ok {k : α → Env → So} : (Rs.ok a e).so k = k a e := rfl
theorem sb_nx {k : Env → So} : (So.nx e).bind k = k e := rfl
theorem sb_ret {k : Env → So} {r : OV} : (So.ret r e).bind k = .ret r e := rfl
theorem sb_bad {k : Env → So} : So.bad.bind k = .bad := rfl
theorem d_fz {d : PyData} : (Rs.ok (.fz d) e).d = .ok d e := rfl
theorem o_some {r : OV} : Rs.o (some r) e = .ok r e := rfl
def tstD (d : PyData) (e : Env) : Rs Bool := match truthD d with
  | some r => .ok r e
  | none => .bad
theorem tst_b {b : Bool} : (Rs.ok (.bool b) e).tst = .ok b e := rfl
theorem tst_i {b : Int} : (Rs.ok (.int b) e).tst = .ok (b != 0) e := rfl
theorem tst_l {b : List PyData} : (Rs.ok (.list b) e).tst = .ok (!b.isEmpty) e := rfl
theorem tst_s {b : Str} : (Rs.ok (.str b) e).tst = .ok ((b.length : Int) != 0) e := rfl
theorem tst_n : (Rs.ok .none e).tst = .ok false e := rfl
def oB (o : Option Bool) (e : Env) : Rs Bool := match o with
  | some r => .ok r e
  | none => .bad
theorem oB_some {r : Bool} : oB (some r) e = .ok r e := rfl
def oP (o : Option PyData) (e : Env) : Rs PyData := match o with
  | some r => .ok r e
  | none => .bad
theorem oP_some {r : PyData} : oP (some r) e = .ok r e := rfl
def oL (o : Option (List PyData)) (e : Env) : Rs (List PyData) := match o with
  | some r => .ok r e
  | none => .bad
theorem oL_some {r : List PyData} : oL (some r) e = .ok r e := rfl
def rdV (o : Option (Option OV)) (i : Nat) (e : Env) : Rs OV := match o with
  | some (some (.fz d)) => .ok (.fz d) e
  | some (some (.ol xs)) => (match dsOf xs with
    | some ds => .ok (.fz (.list ds)) (e.set i (some (.fz (.list ds))))
    | none => .bad)
  | _ => .bad
theorem rdV_fz {i : Nat} {d : PyData} : rdV (some (some (.fz d))) i e = .ok (.fz d) e := rfl
def rdV2 (o : Option (List PyData)) (i : Nat) (e : Env) : Rs OV := match o with
  | some ds => .ok (.fz (.list ds)) (e.set i (some (.fz (.list ds))))
  | none => .bad
theorem rdV2_some {i : Nat} {ds : List PyData} : rdV2 (some ds) i e = .ok (.fz (.list ds)) (e.set i (some (.fz (.list ds)))) := rfl
theorem rdV_ol {i : Nat} {xs : List OV} : rdV (some (some (.ol xs))) i e = rdV2 (dsOf xs) i e := rfl
def mvV (o : Option (Option OV)) (i : Nat) (e : Env) : Rs OV := match o with
  | some (some (.ol xs)) => .ok (.ol xs) (e.set i none)
  | _ => rdVar i e
theorem mvV_ol {i : Nat} {xs : List OV} : mvV (some (some (.ol xs))) i e = .ok (.ol xs) (e.set i none) := rfl
theorem mvV_fz {i : Nat} {d : PyData} : mvV (some (some (.fz d))) i e = rdVar i e := rfl
theorem rdVar_c {i : Nat} : rdVar i (x :: l) = rdV (x :: l)[i]? i (x :: l) := by unfold rdVar rdV; rfl
variable {ρ : Rho}
theorem ev_var {i : Nat} : ev ρ (.var i) (x :: l) = rdV (x :: l)[i]? i (x :: l) := by rw [ev]; exact rdVar_c
theorem ev_mv {i : Nat} : ev ρ (.mv i) (x :: l) = mvV (x :: l)[i]? i (x :: l) := by rw [ev]; unfold mvVar mvV; rfl
theorem ev_int {i : Int} : ev ρ (.int i) e = .ok (.fz (.int i)) e := by rw [ev] <;> rfl
theorem ev_bl {i : Bool} : ev ρ (.bl i) e = .ok (.fz (.bool i)) e := by rw [ev] <;> rfl
theorem ev_non : ev ρ .non e = .ok (.fz .none) e := by rw [ev] <;> rfl
theorem ev_str {i : Str} : ev ρ (.str i) e = .ok (.fz (.str i)) e := by rw [ev] <;> rfl
theorem ev_gi {i : Int} : ev ρ (.gi i) e = .ok (.fz (.int i)) e := by rw [ev] <;> rfl
theorem ev_gs {i : Str} : ev ρ (.gs i) e = .ok (.fz (.str i)) e := by rw [ev] <;> rfl
theorem ev_bin {op : Operator} {a b : Ex'} : ev ρ (.bin op a b) (x :: l) = ((ev ρ a (x :: l)).d).bind fun da e1 => ((ev ρ b e1).d).bind fun db e2 => Rs.o (binD op da db) e2 := by rw [ev] <;> rfl
theorem ev_neg {a : Ex'} : ev ρ (.neg a) (x :: l) = ((ev ρ a (x :: l)).d).bind fun d e => Rs.o (negD d) e := by rw [ev] <;> rfl
theorem ev_cmp {op : CmpOp} {a b : Ex'} : ev ρ (.cmp op a b) (x :: l) = (((ev ρ a (x :: l)).d).bind fun da e1 => ((ev ρ b e1).d).bind fun db e2 => oB (cmpD op da db) e2).bind fun r e => .ok (.fz (.bool r)) e := by rw [ev] <;> rfl
theorem evT_cmp {op : CmpOp} {a b : Ex'} : evT ρ (.cmp op a b) (x :: l) = ((ev ρ a (x :: l)).d).bind fun da e1 => ((ev ρ b e1).d).bind fun db e2 => oB (cmpD op da db) e2 := by rw [evT] <;> rfl
theorem ev_chain {o1 o2 : CmpOp} {a b c : Ex'} : ev ρ (.chain o1 o2 a b c) (x :: l) = (evT ρ (.chain o1 o2 a b c) (x :: l)).bind fun r e => .ok (.fz (.bool r)) e := by rw [ev, evT] <;> rfl
theorem ev_one {a : Ex'} : ev ρ (.one a) (x :: l) = ((ev ρ a (x :: l)).d).bind fun d e => .ok (.fz d) e := by rw [ev] <;> rfl
def andK (ρ : Rho) (b : Ex') (o : Option Bool) (e1 : Env) : Rs PyData := match o with
  | some true => (ev ρ b e1).d
  | some false => .ok (.bool false) e1
  | none => .bad
theorem andK_t {b : Ex'} : andK ρ b (some true) e = (ev ρ b e).d := rfl
theorem andK_f {b : Ex'} : andK ρ b (some false) e = .ok (.bool false) e := rfl
theorem andK_b {b : Ex'} {r : Bool} : andK ρ b (some r) e = if r = true then (ev ρ b e).d else .ok (.bool false) e := by cases r <;> rfl
def orK (ρ : Rho) (b : Ex') (o : Option Bool) (e1 : Env) : Rs PyData := match o with
  | some true => .ok (.bool true) e1
  | some false => (ev ρ b e1).d
  | none => .bad
theorem orK_b {b : Ex'} {r : Bool} : orK ρ b (some r) e = if r = true then .ok (.bool true) e else (ev ρ b e).d := by cases r <;> rfl
def notK (o : Option Bool) (e1 : Env) : Rs PyData := match o with
  | some true => .ok (.bool false) e1
  | some false => .ok (.bool true) e1
  | none => .bad
theorem notK_b {r : Bool} : notK (some r) e = .ok (.bool (!r)) e := by cases r <;> rfl
theorem ev_and {a b : Ex'} : ev ρ (.and a b) (x :: l) = (((ev ρ a (x :: l)).d).bind fun d e1 => andK ρ b (isB d) e1).bind fun d e => .ok (.fz d) e := by rw [ev] <;> rfl
theorem ev_or {a b : Ex'} : ev ρ (.or a b) (x :: l) = (((ev ρ a (x :: l)).d).bind fun d e1 => orK ρ b (isB d) e1).bind fun d e => .ok (.fz d) e := by rw [ev] <;> rfl
theorem ev_not {a : Ex'} : ev ρ (.not a) (x :: l) = (((ev ρ a (x :: l)).d).bind fun d e1 => notK (isB d) e1).bind fun d e => .ok (.fz d) e := by rw [ev] <;> rfl
theorem isB_b {r : Bool} : isB (.bool r) = some r := rfl
theorem ev_ite {c a b : Ex'} : ev ρ (.ite c a b) (x :: l) = (evT ρ c (x :: l)).bind fun r e1 => if r = true then ev ρ a e1 else ev ρ b e1 := by rw [ev] <;> rfl
theorem ev_tup {es : Exs} : ev ρ (.tup es) (x :: l) = ((evs ρ es (x :: l)).bind fun ds e1 => if ds.length ≤ sizeLine then .ok (.tuple ds) e1 else .bad).bind fun d e => .ok (.fz d) e := by rw [ev] <;> rfl
theorem ev_lst {es : Exs} : ev ρ (.lst es) (x :: l) = (evO ρ es (x :: l)).bind fun ds e1 => if ds.length ≤ sizeLine then .ok (.ol ds) e1 else .bad := by rw [ev] <;> rfl
theorem ev_ix {a b : Ex'} : ev ρ (.ix a b) (x :: l) = (((ev ρ a (x :: l)).d).bind fun da e1 => ((ev ρ b e1).d).bind fun db e2 => oP (ixD da db) e2).bind fun d e => .ok (.fz d) e := by rw [ev] <;> rfl
theorem ev_slc {a : Ex'} {lo hi : Opt} : ev ρ (.slc a lo hi) (x :: l) = ((ev ρ a (x :: l)).d).bind fun da e1 => (evP ρ lo e1).bind fun lo e2 => (evP ρ hi e2).bind fun hi e3 => Rs.o (slcD da lo hi) e3 := by rw [ev] <;> rfl
theorem evP_no : evP ρ .no e = .ok none e := by rw [evP] <;> rfl
def partK : PyData → Env → Rs (Option Int)
  | d, e1 => (partM (fun _ => .ok d e1)) e1
theorem evP_yes {a : Ex'} : evP ρ (.yes a) (x :: l) = partM (fun env => (ev ρ a env).d) (x :: l) := by rw [evP] <;> rfl
def calK (as : List ArgM) (den : Den) : Option (List OV × Env) → Rs OV
  | none => .bad
  | some (ovs, e2) => match den ovs with
    | .ok r outs => .ok r (putB as outs e2)
    | .ex x outs => .ex x (putB as outs e2)
    | .bad => .bad
theorem ev_call {f : Nat} {as : Args} : ev ρ (.call f as) (x :: l) = (argsM (evA ρ as) (x :: l)).bind fun ds e1 => calK (evA ρ as) (ρ f) (asm (evA ρ as) ds e1) := by
  rw [ev]; unfold callD
  congr 1
def calR (as : List ArgM) (e2 : Env) : Rs OV → Rs OV
  | .ok r outs => .ok r (putB as outs e2)
  | .ex x outs => .ex x (putB as outs e2)
  | .bad => .bad
theorem calK_some {as : List ArgM} {den : Den} {ovs : List OV} : calK as den (some (ovs, e)) = calR as e (den ovs) := by
  cases h : den ovs <;> simp [calK, calR, h]
theorem calR_ok {as : List ArgM} {r : OV} {outs : Env} : calR as e (.ok r outs) = .ok r (putB as outs e) := rfl
theorem evA_nil : evA ρ .nil = [] := by rw [evA] <;> rfl
theorem evA_e {a : Ex'} {r : Args} : evA ρ (.e a r) = .inl (fun env => (ev ρ a env).d) :: evA ρ r := by rw [evA] <;> rfl
theorem evA_o {i : Nat} {r : Args} : evA ρ (.o i r) = .inr i :: evA ρ r := by rw [evA] <;> rfl
theorem args_nil : argsM [] e = .ok [] e := by unfold argsM; rfl
theorem args_e {m : M PyData} {r : List ArgM} : argsM (.inl m :: r) e = (m e).bind fun d e1 => (argsM r e1).bind fun ds e2 => .ok (d :: ds) e2 := by rw [argsM]
def argK (r : List ArgM) (e : Env) : Option (Option OV) → Rs (List PyData)
  | some (some _) => argsM r e
  | _ => .bad
theorem args_o {i : Nat} {r : List ArgM} : argsM (.inr i :: r) e = argK r e e[i]? := by rw [argsM]; unfold argK; rfl
theorem argK_s {r : List ArgM} {o : OV} : argK r e (some (some o)) = argsM r e := rfl
theorem asm_nil : asm [] [] e = some ([], e) := by unfold asm; rfl
theorem asm_e {m : M PyData} {r : List ArgM} {d : PyData} {ds : List PyData} : asm (.inl m :: r) (d :: ds) e = (asm r ds e).map fun p => (.fz d :: p.1, p.2) := by
  conv => lhs; unfold asm
  cases asm r ds e <;> rfl
def asmK (r : List ArgM) (ds : List PyData) (e : Env) (i : Nat) : Option (Option OV) → Option (List OV × Env)
  | some (some x) => if lent x = true then (asm r ds (e.set i none)).map fun p => (x :: p.1, p.2) else none
  | _ => none
theorem asm_o {i : Nat} {r : List ArgM} {ds : List PyData} : asm (.inr i :: r) ds e = asmK r ds e i e[i]? := by
  conv => lhs; unfold asm
  unfold asmK
  cases h : e[i]? with
  | none => rfl
  | some o =>
    cases o with
    | none => rfl
    | some x =>
      simp only []
      by_cases q : lent x = true
      · rw [if_pos q, if_pos q]
        cases asm r ds (e.set i none) <;> rfl
      · rw [if_neg q, if_neg q]
theorem asmK_s {r : List ArgM} {ds : List PyData} {i : Nat} {o : OV} : asmK r ds e i (some (some o)) = if lent o = true then (asm r ds (e.set i none)).map fun p => (o :: p.1, p.2) else none := rfl
theorem lent_ol {xs : List OV} : lent (.ol xs) = true := rfl
theorem lent_sc {xs : List Int} : lent (.sc xs) = true := rfl
theorem lent_fz {d : PyData} : lent (.fz d) = false := rfl
theorem put_nil : putB [] [] e = e := by unfold putB; rfl
theorem put_e {m : M PyData} {r : List ArgM} {o : Option OV} {os : Env} : putB (.inl m :: r) (o :: os) e = putB r os e := by conv => lhs; unfold putB
theorem put_o {i : Nat} {r : List ArgM} {o : Option OV} {os : Env} : putB (.inr i :: r) (o :: os) e = (putB r os e).set i o := by conv => lhs; unfold putB
theorem ev_blt {b : Bf} {es : Exs} : ev ρ (.blt b es) (x :: l) = (evs ρ es (x :: l)).bind fun ds e1 => Rs.o (bfD b ds) e1 := by rw [ev] <;> rfl
theorem ev_isi {a : Ex'} {t : Ty} : ev ρ (.isi a t) (x :: l) = (((ev ρ a (x :: l)).d).bind fun d e1 => (oB (isiD d t) e1).bind fun b e => .ok (.bool b) e).bind fun d e => .ok (.fz d) e := by
  rw [ev]; unfold isiM
  dsimp only
  cases (ev ρ a (x :: l)).d with
  | ok d e1 => simp only [bind_ok]; cases isiD d t <;> rfl
  | ex _ _ => rfl
  | bad => rfl
def lscK (e : Env) : Option (Option OV) → Rs OV
  | some (some (.sc ns)) => if ns.length ≤ sizeLine then .ok (.ol (ns.map fun n => .fz (.int n))) e else .bad
  | _ => .bad
theorem ev_lsc {i : Nat} : ev ρ (.lsc i) (x :: l) = lscK (x :: l) (x :: l)[i]? := by rw [ev]; unfold lscM lscK; rfl
theorem lscK_s {ns : List Int} : lscK e (some (some (.sc ns))) = if ns.length ≤ sizeLine then .ok (.ol (ns.map fun n => .fz (.int n))) e else .bad := rfl
def cmpK (vs : List Nat) (e1 : Env) : Rs (List PyData) → Rs OV
  | .ok ys e2 => .ok (.ol (ys.map .fz)) (resE vs e1 e2)
  | .ex _ _ => .bad
  | .bad => .bad
theorem cmpK_ok {vs : List Nat} {e1 e2 : Env} {ys : List PyData} : cmpK vs e1 (.ok ys e2) = .ok (.ol (ys.map .fz)) (resE vs e1 e2) := rfl
theorem ev_lc {elt : Ex'} {tg : Tg} {it : Itr'} {c : Opt} {vs : List Nat} : ev ρ (.lc elt tg it c vs) (x :: l) = (evI ρ it (x :: l)).bind fun ds e1 => cmpK vs e1 (compL (bdG tg) (evC ρ c) (fun env => (ev ρ elt env).d) vs ds (wipeE e1 vs)) := by
  rw [ev]; unfold compM
  congr 1
theorem evC_no : evC ρ .no e = .ok true e := by rw [evC] <;> rfl
theorem evC_yes {a : Ex'} : evC ρ (.yes a) e = evT ρ a e := by rw [evC] <;> rfl
theorem evI_e {a : Ex'} : evI ρ (.e a) (x :: l) = ((ev ρ a (x :: l)).d).bind fun d e1 => oL (itD d) e1 := by rw [evI] <;> rfl
theorem evI_r1 {a : Ex'} : evI ρ (.r1 a) (x :: l) = ((ev ρ a (x :: l)).d).bind fun d e1 => oL (rngD [d]) e1 := by
  rw [evI]; unfold rngM consL
  dsimp only
  cases (ev ρ a (x :: l)).d <;> rfl
theorem evI_r2 {a b : Ex'} : evI ρ (.r2 a b) (x :: l) = ((ev ρ a (x :: l)).d).bind fun d e1 => ((ev ρ b e1).d).bind fun d2 e2 => oL (rngD [d, d2]) e2 := by
  rw [evI]; unfold rngM consL
  dsimp only
  cases (ev ρ a (x :: l)).d with
  | ok d e1 => simp only [bind_ok]; cases (ev ρ b e1).d <;> rfl
  | ex _ _ => rfl
  | bad => rfl
theorem evs_nil : evs ρ .nil e = .ok [] e := by rw [evs] <;> rfl
theorem evs_cons {a : Ex'} {r : Exs} : evs ρ (.cons a r) e = ((ev ρ a e).d).bind fun d e1 => (evs ρ r e1).bind fun ds e2 => .ok (d :: ds) e2 := by rw [evs] <;> rfl
theorem evO_nil : evO ρ .nil e = .ok [] e := by rw [evO] <;> rfl
theorem evO_cons {a : Ex'} {r : Exs} : evO ρ (.cons a r) e = (ev ρ a e).bind fun d e1 => (evO ρ r e1).bind fun ds e2 => .ok (d :: ds) e2 := by rw [evO] <;> rfl
def olO : Option (Option OV) → Option (List OV)
  | some (some (.ol xs)) => some xs
  | _ => none
theorem olO_s {xs : List OV} : olO (some (some (.ol xs))) = some xs := rfl
theorem olOf_c {i : Nat} : olOf (x :: l) i = olO (x :: l)[i]? := by unfold olOf olO; rfl
def appK2 (i : Nat) (r : OV) (e1 : Env) : Option (List OV) → Rs OV
  | none => .bad
  | some xs => if xs.length < sizeLine then .ok (.fz .none) (e1.set i (some (.ol (xs ++ [r])))) else .bad
theorem appK2_s {i : Nat} {r : OV} {xs : List OV} : appK2 i r e (some xs) = if xs.length < sizeLine then .ok (.fz .none) (e.set i (some (.ol (xs ++ [r])))) else .bad := rfl
def appK (ρ : Rho) (i : Nat) (a : Ex') (e : Env) : Option (List OV) → Rs OV
  | none => .bad
  | some _ => (ev ρ a e).bind fun r e1 => appK2 i r e1 (olOf e1 i)
theorem appK_s {i : Nat} {a : Ex'} {xs : List OV} : appK ρ i a e (some xs) = (ev ρ a e).bind fun r e1 => appK2 i r e1 (olOf e1 i) := rfl
theorem ev_app {i : Nat} {a : Ex'} : ev ρ (.app i a) (x :: l) = appK ρ i a (x :: l) (olOf (x :: l) i) := by
  rw [ev]; unfold appM appK
  cases olOf (x :: l) i with
  | none => rfl
  | some xs =>
    simp only []
    congr 1
def bwK (e fe : Env) : Rs OV → Rs OV
  | .ok r _ => if closed r = true then .ok r e else .ok r fe
  | .ex x _ => .ex x fe
  | .bad => .bad
theorem bwK_ok {fe e2 : Env} {r : OV} : bwK e fe (.ok r e2) = if closed r = true then .ok r e else .ok r fe := rfl
theorem ev_bw {vs ks : List Nat} {a : Ex'} : ev ρ (.bw vs ks a) (x :: l) = if noOwn (killE ks (frzE vs (x :: l))) = true then bwK (x :: l) (frzE vs (x :: l)) (ev ρ a (killE ks (frzE vs (x :: l)))) else .bad := by
  rw [ev]; unfold bwM bwK
  rfl
def bwK' (e fe : Env) : Rs Bool → Rs Bool
  | .ok r _ => .ok r e
  | .ex x _ => .ex x fe
  | .bad => .bad
theorem bwK'_ok {fe e2 : Env} {r : Bool} : bwK' e fe (.ok r e2) = .ok r e := rfl
theorem evT_bw {vs ks : List Nat} {a : Ex'} : evT ρ (.bw vs ks a) (x :: l) = if noOwn (killE ks (frzE vs (x :: l))) = true then bwK' (x :: l) (frzE vs (x :: l)) (evT ρ a (killE ks (frzE vs (x :: l)))) else .bad := by
  rw [evT]; unfold bwT
  rfl
theorem evT_chain {o1 o2 : CmpOp} {a b c : Ex'} : evT ρ (.chain o1 o2 a b c) (x :: l) = chain2 (fun env => (ev ρ a env).d) (fun env => (ev ρ b env).d) (fun env => (ev ρ c env).d) (cmpD o1) (cmpD o2) (x :: l) := by rw [evT] <;> rfl
theorem evT_one {a : Ex'} : evT ρ (.one a) e = evT ρ a e := by rw [evT] <;> rfl
theorem evT_and {a b : Ex'} : evT ρ (.and a b) (x :: l) = (evT ρ a (x :: l)).bind fun r e1 => if r = true then evT ρ b e1 else .ok false e1 := by rw [evT] <;> rfl
theorem evT_or {a b : Ex'} : evT ρ (.or a b) (x :: l) = (evT ρ a (x :: l)).bind fun r e1 => if r = true then .ok true e1 else evT ρ b e1 := by rw [evT] <;> rfl
theorem evT_not {a : Ex'} : evT ρ (.not a) (x :: l) = (evT ρ a (x :: l)).bind fun r e1 => .ok (!r) e1 := by rw [evT] <;> rfl
theorem evT_var {i : Nat} : evT ρ (.var i) (x :: l) = (ev ρ (.var i) (x :: l)).d.tst := by simp only [evT]
theorem evT_call {f : Nat} {as : Args} : evT ρ (.call f as) (x :: l) = (ev ρ (.call f as) (x :: l)).d.tst := by simp only [evT]
theorem evT_isi {a : Ex'} {t : Ty} : evT ρ (.isi a t) (x :: l) = (ev ρ (.isi a t) (x :: l)).d.tst := by simp only [evT]
theorem evT_blt {b : Bf} {es : Exs} : evT ρ (.blt b es) (x :: l) = (ev ρ (.blt b es) (x :: l)).d.tst := by simp only [evT]
theorem evT_ix {a b : Ex'} : evT ρ (.ix a b) (x :: l) = (ev ρ (.ix a b) (x :: l)).d.tst := by simp only [evT]
theorem evT_bin {op : Operator} {a b : Ex'} : evT ρ (.bin op a b) (x :: l) = (ev ρ (.bin op a b) (x :: l)).d.tst := by simp only [evT]
theorem evT_bl {b : Bool} : evT ρ (.bl b) e = .ok b e := by simp only [evT, ev]; rfl
variable {own : List Nat}
theorem ex_pass : exS ρ own .pass e = .nx e := by rw [exS] <;> rfl
theorem ex_asg {i : Nat} {a : Ex'} : exS ρ own (.asg i a) (x :: l) = if own.contains i = true then .bad else (ev ρ a (x :: l)).so fun r e1 => if i < e1.length then .nx (e1.set i (some r)) else .bad := by rw [exS] <;> rfl
theorem ex_expr {a : Ex'} : exS ρ own (.expr a) (x :: l) = (ev ρ a (x :: l)).so fun _ e1 => .nx e1 := by rw [exS] <;> rfl
theorem ex_ret {a : Ex'} : exS ρ own (.ret a) (x :: l) = (ev ρ a (x :: l)).so fun r e1 => .ret r e1 := by rw [exS] <;> rfl
theorem ex_retN : exS ρ own .retN e = .ret (.fz .none) e := by rw [exS] <;> rfl
theorem ex_if {c : Ex'} {a b : Sts} : exS ρ own (.iff c a b) (x :: l) = (evT ρ c (x :: l)).so fun r e1 => if r = true then exs ρ own a e1 else exs ρ own b e1 := by rw [exS] <;> rfl
theorem ex_for {tg : Tg} {it : Itr'} {b : Sts} : exS ρ own (.forr tg it b) (x :: l) = if tg.js.any own.contains = true then .bad else (evI ρ it (x :: l)).so fun ds e1 => forL (bdG tg) (exs ρ own b) ds e1 := by rw [exS] <;> rfl
theorem ex_whl {n : Nat} {c : Ex'} {b : Sts} : exS ρ own (.whl n c b) e = whileL (evT ρ c) (exs ρ own b) n e := by rw [exS] <;> rfl
def setK2 (j : Nat) (d : PyData) (e2 : Env) : Option (List OV) → PyData → So
  | some xs, .int k => (match ixN xs.length k with
    | some n => .nx (e2.set j (some (.ol (xs.set n (.fz d)))))
    | none => .bad)
  | _, _ => .bad
def setK3 (j : Nat) (d : PyData) (e2 : Env) (xs : List OV) : Option Nat → So
  | some n => .nx (e2.set j (some (.ol (xs.set n (.fz d)))))
  | none => .bad
theorem setK2_s {j : Nat} {d : PyData} {xs : List OV} {k : Int} : setK2 j d e (some xs) (.int k) = setK3 j d e xs (ixN xs.length k) := by
  unfold setK2 setK3
  rfl
theorem setK3_s {j n : Nat} {d : PyData} {xs : List OV} : setK3 j d e xs (some n) = .nx (e.set j (some (.ol (xs.set n (.fz d))))) := rfl
def setK (ρ : Rho) (j : Nat) (i : Ex') (d : PyData) (e1 : Env) : Option (List OV) → So
  | none => .bad
  | some _ => ((ev ρ i e1).d).so fun di e2 => setK2 j d e2 (olOf e2 j) di
theorem setK_s {j : Nat} {i : Ex'} {d : PyData} {xs : List OV} : setK ρ j i d e (some xs) = ((ev ρ i e).d).so fun di e2 => setK2 j d e2 (olOf e2 j) di := rfl
theorem ex_set {j : Nat} {i a : Ex'} : exS ρ own (.set j i a) (x :: l) = ((ev ρ a (x :: l)).d).so fun d e1 => setK ρ j i d e1 (olOf e1 j) := by
  rw [exS]; unfold setM
  congr 1
theorem ex_aug {i : Nat} {op : Operator} {a : Ex'} : exS ρ own (.aug i op a) e = augM own i op (fun env => (ev ρ a env).d) e := by rw [exS] <;> rfl
theorem ex_augS {j : Nat} {op : Operator} {i a : Ex'} : exS ρ own (.augS j op i a) e = augSM j op (fun env => (ev ρ i env).d) (fun env => (ev ρ a env).d) e := by rw [exS] <;> rfl
theorem exs_nil : exs ρ own .nil e = .nx e := by rw [exs] <;> rfl
theorem exs_cons {s : St'} {r : Sts} : exs ρ own (.cons s r) e = (exS ρ own s e).bind (exs ρ own r) := by rw [exs] <;> rfl
def runK (ovs : List OV) : So → Rs OV
  | .ret r env => .ok r (outsR ovs env)
  | .nx env => .ok (.fz .none) (outsR ovs env)
  | .ex x env => .ex x (outsR ovs env)
  | .bad => .bad
theorem run_b {np nv : Nat} {m : MS} {ovs : List OV} : runB np nv own m ovs = if ovs.length = np ∧ np ≤ nv ∧ lentOk own ovs 0 = true then runK ovs (m (ovs.map some ++ List.replicate (nv - np) none)) else .bad := by
  unfold runB runK
  rfl
theorem runK_ret {ovs : List OV} {r : OV} : runK ovs (.ret r e) = .ok r (outsR ovs e) := rfl
theorem runK_nx {ovs : List OV} : runK ovs (.nx e) = .ok (.fz .none) (outsR ovs e) := rfl
def frzK (i : Nat) (vs : List Nat) (e : Env) : Option (Option OV) → Env
  | some (some (.ol xs)) => (match dsOf xs with
    | some ds => frzE vs (e.set i (some (.fz (.list ds))))
    | none => frzE vs e)
  | _ => frzE vs e
def frzK2 (i : Nat) (vs : List Nat) (e : Env) : Option (List PyData) → Env
  | some ds => frzE vs (e.set i (some (.fz (.list ds))))
  | none => frzE vs e
theorem frz_cons {i : Nat} {vs : List Nat} : frzE (i :: vs) (x :: l) = frzK i vs (x :: l) (x :: l)[i]? := by
  conv => lhs; unfold frzE
  unfold frzK; rfl
theorem frzK_ol {i : Nat} {vs : List Nat} {xs : List OV} : frzK i vs e (some (some (.ol xs))) = frzK2 i vs e (dsOf xs) := by
  unfold frzK frzK2; rfl
theorem frzK2_s {i : Nat} {vs : List Nat} {ds : List PyData} : frzK2 i vs e (some ds) = frzE vs (e.set i (some (.fz (.list ds)))) := rfl
theorem frzK_fz {i : Nat} {vs : List Nat} {d : PyData} : frzK i vs e (some (some (.fz d))) = frzE vs e := rfl
theorem frzK_no {i : Nat} {vs : List Nat} : frzK i vs e (some none) = frzE vs e := rfl
theorem dOf_fz {d : PyData} : dOf (.fz d) = some d := by unfold dOf; rfl
theorem dsOf_nil : dsOf [] = some [] := by unfold dsOf; rfl
theorem dsOf_cons {x : OV} {xs : List OV} : dsOf (x :: xs) = (dOf x).bind fun d => (dsOf xs).map fun ds => d :: ds := by
  conv => lhs; unfold dsOf
  cases dOf x <;> cases dsOf xs <;> rfl
theorem dsOf_fz : ∀ ds : List PyData, dsOf (ds.map .fz) = some ds
  | [] => dsOf_nil
  | d :: ds => by rw [List.map_cons, dsOf_cons, dOf_fz, dsOf_fz ds]; rfl
/-- an owned list of whole numbers -/
def olI (l : List Int) : OV := .ol (l.map fun i => .fz (.int i))
theorem olI_fz (l : List Int) : olI l = .ol ((l.map PyData.int).map .fz) := by simp [olI, Function.comp_def]
theorem dsOf_ints (l : List Int) : dsOf (l.map fun i => .fz (.int i)) = some (l.map .int) := by
  have := dsOf_fz (l.map PyData.int)
  simpa [Function.comp_def] using this
theorem dOf_olI {l : List Int} : dOf (olI l) = some (.list (l.map .int)) := by
  unfold olI dOf
  rw [dsOf_ints]; rfl
theorem dOf_olI' {l : List Int} : dOf (.ol (l.map fun i => .fz (.int i))) = some (.list (l.map .int)) := dOf_olI
theorem d_olI {l : List Int} : (Rs.ok (olI l) e).d = .ok (.list (l.map .int)) e := by
  show (match dOf (olI l) with | some d => Rs.ok d e | none => .bad) = _
  rw [dOf_olI]
theorem d_ol {xs : List OV} : (Rs.ok (.ol xs) e).d = match dsOf xs with | some ds => .ok (.list ds) e | none => .bad := by
  show (match dOf (.ol xs) with | some d => Rs.ok d e | none => .bad) = _
  unfold dOf
  cases dsOf xs <;> rfl
theorem frzE_nil : frzE [] e = e := by unfold frzE; rfl
end
/-! ### laws of evaluation -/
theorem mul_l {a b : Int} (h : a.natAbs < 2 ^ 64) : mulD (.int a) (.int b) = some (.fz (.int (a * b))) := by
  have : mulG a b = true := by unfold mulG; rw [decide_eq_true h]; rfl
  simp [mulD, this]
theorem mul_r {a b : Int} (h : b.natAbs < 2 ^ 64) : mulD (.int a) (.int b) = some (.fz (.int (a * b))) := by
  have : mulG a b = true := by unfold mulG; rw [decide_eq_true h]; simp
  simp [mulD, this]
theorem log_lt {b : Int} (h : b < 2 ^ 64) (h0 : 0 < b) : b.natAbs.log2 < 9000 := by
  have h1 : b.natAbs < 2 ^ 64 := by omega
  have h2 : b.natAbs ≠ 0 := by omega
  have := (Nat.log2_lt h2).mpr h1
  omega
theorem div_e {a b : Int} (h0 : 0 < b) (h : b < 2 ^ 64) : fdivD (.int a) (.int b) = some (.fz (.int (a / b))) := by
  simp [fdivD, h0, log_lt h h0]
theorem mod_e {a b : Int} (h0 : 0 < b) : modD (.int a) (.int b) = some (.fz (.int (a % b))) := by
  simp [modD, h0]
theorem eq_int {a b : Int} : eqD (.int a) (.int b) = some (decide (a = b)) := by
  show (if depG (.int a) (.int b) = true then some (PyData.eqv (.int a) (.int b)) else none) = _
  rw [if_pos (by simp [depG, PyData.depth])]
  unfold PyData.eqv
  rfl
theorem eq_str {a b : Str} : eqD (.str a) (.str b) = some (a == b) := by
  show (if depG (.str a) (.str b) = true then some (PyData.eqv (.str a) (.str b)) else none) = _
  rw [if_pos (by simp [depG, PyData.depth])]
  unfold PyData.eqv
  rfl
theorem eq_bool {a b : Bool} : eqD (.bool a) (.bool b) = some (a == b) := by
  show (if depG (.bool a) (.bool b) = true then some (PyData.eqv (.bool a) (.bool b)) else none) = _
  rw [if_pos (by simp [depG, PyData.depth])]
  unfold PyData.eqv
  rfl
theorem dep_ints : ∀ l : List Int, PyData.depthAll (l.map .int) ≤ 1
  | [] => by simp [PyData.depthAll]
  | x :: l => by
    have := dep_ints l
    simp only [List.map_cons, PyData.depthAll, PyData.depth]
    omega
theorem eqv_ints : ∀ a b : List Int, PyData.eqvAll (a.map .int) (b.map .int) = decide (a = b)
  | [], [] => by simp [PyData.eqvAll]
  | [], _ :: _ => by simp [PyData.eqvAll]
  | _ :: _, [] => by simp [PyData.eqvAll]
  | x :: a, y :: b => by
    simp only [List.map_cons, PyData.eqvAll, eqv_ints a b, PyData.eqv]
    by_cases h : x = y <;> by_cases h2 : a = b <;> simp [h, h2]
theorem eq_ints {a b : List Int} : eqD (.list (a.map .int)) (.list (b.map .int)) = some (decide (a = b)) := by
  show (if depG (.list (a.map .int)) (.list (b.map .int)) = true then some (PyData.eqv (.list (a.map .int)) (.list (b.map .int))) else none) = _
  rw [if_pos (by unfold depG; have := dep_ints a; simp only [PyData.depth]; apply decide_eq_true; omega)]
  unfold PyData.eqv
  rw [eqv_ints]
theorem closeds_ints : ∀ l : List Int, closeds (l.map fun i => .fz (.int i)) = true
  | [] => rfl
  | i :: l => by simp [closeds, closed, closedD, closeds_ints l]
theorem atI_nat {α : Type} {xs : List α} {i : Nat} : atI xs (i : Int) = xs[i]? := by
  unfold atI ixN
  rw [if_pos (by omega)]
  by_cases h : i < xs.length
  · rw [if_pos (by omega)]; simp
  · rw [if_neg (by omega)]; simp; omega
theorem rng_1 {hi : Int} (h : hi ≤ 16777216) (h2 : -(2 ^ 62) ≤ hi) : rngD [.int hi] = some (rngL 0 hi) := by simp only [rngD]; rw [if_pos ⟨h, h2⟩]
theorem rng_2 {lo hi : Int} (h1 : -(2 ^ 61) ≤ lo ∧ lo < 2 ^ 61) (h2 : -(2 ^ 61) ≤ hi ∧ hi < 2 ^ 61) (h3 : hi - lo ≤ 16777216) : rngD [.int lo, .int hi] = some (rngL lo hi) := by
  simp only [rngD]; rw [if_pos ⟨h1, h2, h3⟩]
/-- the whole numbers from lo to hi -/
def rgI (lo hi : Int) : List Int := (List.range (hi - lo).toNat).map fun (i : Nat) => lo + (i : Int)
theorem rngL_eq (lo hi : Int) : rngL lo hi = (rgI lo hi).map .int := by simp [rngL, rgI, Function.comp_def]
theorem mem_rgI {lo hi x : Int} : x ∈ rgI lo hi ↔ lo ≤ x ∧ x < hi := by
  unfold rgI
  rw [List.mem_map]
  constructor
  · rintro ⟨i, hi, rfl⟩
    rw [List.mem_range] at hi
    omega
  · intro ⟨h1, h2⟩
    exact ⟨(x - lo).toNat, List.mem_range.mpr (by omega), by omega⟩
theorem rgI_len (lo hi : Int) : (rgI lo hi).length = (hi - lo).toNat := by simp [rgI]
theorem bd_nm {i : Nat} {d : PyData} {env : Env} : bdG (.nm i) d env = if i < env.length then some (env.set i (some (.fz d))) else none := rfl
theorem bd_tp {is : List Nat} {d : PyData} {env : Env} : bdG (.tp is) d env = bdT is.length (bdsN is) d env := rfl
/-- a comprehension over what an environment stays fixed for -/
theorem compL_fm {α : Type} {bd : PyData → Env → Option Env} {tc : M Bool} {me : M PyData} {vs : List Nat} {env : Env} {g : α → PyData} (p : α → Bool) (f : α → PyData) : ∀ (l : List α),
    (∀ x, x ∈ l → ∃ e1 e2, bd (g x) env = some e1 ∧ tc e1 = .ok (p x) e2 ∧ (if p x = true then ∃ e3, me e2 = .ok (f x) e3 ∧ wipeE e3 vs = env else wipeE e2 vs = env)) →
    compL bd tc me vs (l.map g) env = .ok ((l.filter p).map f) env
  | [], _ => by simp [compL]
  | x :: l, h => by
    obtain ⟨e1, e2, h1, h2, h3⟩ := h x List.mem_cons_self
    have ih := compL_fm p f l fun y hy => h y (List.mem_cons_of_mem _ hy)
    rw [List.map_cons]
    unfold compL
    rw [h1]; simp only []
    rw [h2]
    by_cases hp : p x = true
    · rw [if_pos hp] at h3
      obtain ⟨e3, h3, h4⟩ := h3
      rw [hp]; simp only []
      rw [h3]; simp only []
      rw [h4, ih, List.filter_cons_of_pos hp]
      rfl
    · rw [if_neg hp] at h3
      have hp' : p x = false := by simpa using hp
      rw [hp']; simp only []
      rw [h3, ih, List.filter_cons_of_neg hp]
/-- a loop: an invariant over what is done and what is left -/
theorem forL_inv {α : Type} {bd : PyData → Env → Option Env} {mb : MS} {g : α → PyData} (I : List α → Env → Prop) : ∀ (l done : List α) (env : Env),
    I done env → (∀ d x r env, d ++ x :: r = done ++ l → I d env → ∃ e1 e2, bd (g x) env = some e1 ∧ mb e1 = .nx e2 ∧ I (d ++ [x]) e2) →
    ∃ env', forL bd mb (l.map g) env = .nx env' ∧ I (done ++ l) env'
  | [], done, env, h, _ => ⟨env, by simp [forL], by simpa using h⟩
  | x :: l, done, env, h, st => by
    obtain ⟨e1, e2, h1, h2, h3⟩ := st done x l env rfl h
    obtain ⟨e', h4, h5⟩ := forL_inv I l (done ++ [x]) e2 h3 fun d y r env e => st d y r env (by rw [e]; simp)
    refine ⟨e', ?_, by simpa using h5⟩
    rw [List.map_cons]
    unfold forL
    rw [h1]; simp only []
    rw [h2]
    exact h4
theorem add_int {a b : Int} : addD (.int a) (.int b) = some (.fz (.int (a + b))) := rfl
theorem sub_int {a b : Int} : subD (.int a) (.int b) = some (.fz (.int (a - b))) := rfl
theorem neg_int {a : Int} : negD (.int a) = some (.fz (.int (-a))) := rfl
theorem lt_int {a b : Int} : ltD (.int a) (.int b) = some (decide (a < b)) := rfl
theorem le_int {a b : Int} : leD (.int a) (.int b) = some (decide (a ≤ b)) := rfl
theorem gt_int {a b : Int} : gtD (.int a) (.int b) = some (decide (b < a)) := rfl
theorem ge_int {a b : Int} : geD (.int a) (.int b) = some (decide (b ≤ a)) := rfl
theorem ix_l {xs : List PyData} {i : Int} : ixD (.list xs) (.int i) = atI xs i := rfl
theorem ix_t {xs : List PyData} {i : Int} : ixD (.tuple xs) (.int i) = atI xs i := rfl
theorem ix_s {x : Str} {i : Int} : ixD (.str x) (.int i) = (atI x.cps.toList i).map fun c => .str ⟨#[c]⟩ := rfl
theorem bf_len_l {ds : List PyData} : bfD .len [.list ds] = some (.fz (.int (ds.length : Int))) := rfl
theorem bf_len_t {ds : List PyData} : bfD .len [.tuple ds] = some (.fz (.int (ds.length : Int))) := rfl
theorem bf_len_s {x : Str} : bfD .len [.str x] = some (.fz (.int (x.length : Int))) := rfl
theorem bf_abs {i : Int} : bfD .abs [.int i] = some (.fz (.int (if i < 0 then -i else i))) := rfl
theorem bf_int {i : Int} : bfD .int [.int i] = some (.fz (.int i)) := rfl
theorem bf_intb {b : Bool} : bfD .int [.bool b] = some (.fz (.int (if b = true then 1 else 0))) := rfl
theorem bf_max2 {i j : Int} : bfD .max [.int i, .int j] = some (.fz (.int (if j > i then j else i))) := rfl
theorem bf_min2 {i j : Int} : bfD .min [.int i, .int j] = some (.fz (.int (if j < i then j else i))) := rfl
theorem bf_list_l {ds : List PyData} : bfD .list [.list ds] = some (.ol (ds.map .fz)) := rfl
theorem bf_list_t {ds : List PyData} : bfD .list [.tuple ds] = some (.ol (ds.map .fz)) := rfl
theorem bf_tup_l {ds : List PyData} : bfD .tuple [.list ds] = some (.fz (.tuple ds)) := rfl
theorem it_l {ds : List PyData} : itD (.list ds) = some ds := rfl
theorem it_t {ds : List PyData} : itD (.tuple ds) = some ds := rfl
theorem it_s {x : Str} : itD (.str x) = some (signs x) := rfl
theorem iop_add {i j : Int} : iopD .Add (.int i) (.int j) = some (.int (i + j)) := rfl
theorem iop_sub {i j : Int} : iopD .Sub (.int i) (.int j) = some (.int (i - j)) := rfl
theorem ints_ok : ∀ l : List Int, intsOf (l.map .int) = some l
  | [] => rfl
  | i :: l => by simp [intsOf, ints_ok l]
theorem bf_sum {l : List Int} : bfD .sum [.list (l.map .int)] = some (.fz (.int l.sum)) := by
  show (intsOf (l.map .int)).map _ = _
  rw [ints_ok]; rfl
theorem outs_nil {e : Env} : outsR [] e = [] := by unfold outsR; rfl
theorem outs_fz {d : PyData} {os : List OV} {e : Env} : outsR (.fz d :: os) e = none :: outsR os e.tail := by cases e <;> rfl
theorem outs_c {o : OV} {os : List OV} {x : Option OV} {e : Env} : outsR (o :: os) (x :: e) = (if lent o = true then x else none) :: outsR os e := rfl
theorem frzK_olI {i : Nat} {vs : List Nat} {e : Env} {l : List Int} : frzK i vs e (some (some (olI l))) = frzE vs (e.set i (some (.fz (.list (l.map .int))))) := by
  unfold olI; rw [frzK_ol, dsOf_ints, frzK2_s]
theorem rdV_olI {i : Nat} {e : Env} {l : List Int} : rdV (some (some (olI l))) i e = .ok (.fz (.list (l.map .int))) (e.set i (some (.fz (.list (l.map .int))))) := by
  unfold olI; rw [rdV_ol, dsOf_ints, rdV2_some]
theorem mvV_olI {i : Nat} {e : Env} {l : List Int} : mvV (some (some (olI l))) i e = .ok (olI l) (e.set i none) := rfl
theorem olO_olI {l : List Int} : olO (some (some (olI l))) = some (l.map fun i => .fz (.int i)) := rfl
theorem lent_olI {l : List Int} : lent (olI l) = true := rfl
theorem closed_olI {l : List Int} : closed (olI l) = true := by
  unfold olI closed; exact closeds_ints l
theorem olI_app {l : List Int} {x : Int} : OV.ol ((l.map fun i => .fz (.int i)) ++ [.fz (.int x)]) = olI (l ++ [x]) := by simp [olI]
theorem olI_nil : OV.ol [] = olI [] := rfl
/-! ### the script's feed -/
def feedV (ns : List Int) (i big seed : Int) : OV := .ol [olI ns, .fz (.int i), .fz (.int big), .fz (.int seed)]
def IsFeed (o : OV) : Prop := ∃ (ns : List Int) (i big seed : Int), o = feedV ns i big seed ∧ 0 ≤ i ∧ 0 ≤ big ∧ 0 ≤ seed ∧ seed < 2147483647
def bod__law_feed : Sts := (.cons (.ret (.lst (.cons (.lsc 0) (.cons (.int 0) (.cons (.int 0) (.cons (.int 1) .nil)))))) .nil)
def rho__law_feed : Rho := fun _ _ => .bad
def den__law_feed : Den := runB 1 1 [0] (exs rho__law_feed [0] bod__law_feed)
def bodT : Sts := (.cons (.iff (.bw [0] [1, 2, 3, 4] (.cmp .Gt (.ix (.var 0) (.int 2)) (.int 0))) (.cons (.asg 4 (.bw [0, 1] [2, 3, 4] (.bin .Mod (.blt .int (.cons (.ix (.var 0) (.int 2)) .nil)) (.var 1)))) (.cons (.set 0 (.int 2) (.bw [0, 1] [2, 3, 4] (.bin .FloorDiv (.ix (.var 0) (.int 2)) (.var 1)))) (.cons (.ret (.var 4)) .nil))) .nil) (.cons (.set 0 (.int 3) (.bw [0] [1, 2, 3, 4] (.bin .Mod (.blt .int (.cons (.bin .Add (.bin .Mult (.ix (.var 0) (.int 3)) (.int 16807)) (.int 12345)) .nil)) (.int 2147483647)))) (.cons (.asg 2 (.bw [0] [1, 2, 3, 4] (.bin .Mod (.blt .int (.cons (.bin .Add (.bin .Mult (.ix (.var 0) (.int 3)) (.ix (.var 0) (.int 3))) (.ix (.var 0) (.int 3))) .nil)) (.int 2147483629)))) (.cons (.ret (.bin .Mod (.bin .FloorDiv (.var 2) (.int 11)) (.var 1))) .nil))))
def bod__law_draw : Sts := (.cons (.iff (.bw [0] [1, 2, 3, 4] (.and (.cmp .Eq (.ix (.var 0) (.int 2)) (.int 0)) (.one (.cmp .Lt (.ix (.var 0) (.int 1)) (.blt .len (.cons (.ix (.var 0) (.int 0)) .nil)))))) (.cons (.asg 3 (.bw [0] [1, 2, 3, 4] (.blt .abs (.cons (.blt .int (.cons (.ix (.ix (.var 0) (.int 0)) (.ix (.var 0) (.int 1))) .nil)) .nil)))) (.cons (.augS 0 .Add (.int 1) (.int 1)) (.cons (.iff (.cmp .GtE (.var 3) (.bin .Pow (.int 10) (.int 18))) (.cons (.set 0 (.int 2) (.var 3)) .nil) (.cons (.set 0 (.int 3) (.bw [0, 3] [1, 2, 4] (.bin .Mod (.blt .int (.cons (.bin .Add (.bin .Add (.bin .Mult (.ix (.var 0) (.int 3)) (.int 48271)) (.bin .Mult (.var 3) (.int 69621))) (.ix (.var 0) (.int 1))) .nil)) (.int 2147483647)))) .nil)) .nil))) .nil) bodT)
def rho__law_draw : Rho := fun _ _ => .bad
def den__law_draw : Den := runB 2 5 [0] (exs rho__law_draw [0] bod__law_draw)
theorem feed_ok (ns : List Int) (h : ns.length ≤ 63) : ∃ o outs, den__law_feed [.sc ns] = .ok o [outs] ∧ IsFeed o := by
  have h2 : ns.length ≤ sizeLine := Nat.le_trans h (by decide)
  refine ⟨feedV ns 0 0 1, some (.sc ns), ?_, ns, 0, 0, 1, rfl, by decide, by decide, by decide, by decide⟩
  have h3 : 4 ≤ sizeLine := by decide
  simp [den__law_feed, bod__law_feed, Vi.bind_ok, Vi.bind_bad, Vi.bind_ex, Vi.so_ok, Vi.sb_nx, Vi.sb_ret, Vi.sb_bad, Vi.d_fz, Vi.d_olI, Vi.d_ol, Vi.o_some, Vi.tst_b, Vi.tst_i, Vi.tst_l, Vi.tst_s, Vi.tst_n, Vi.oB_some, Vi.oP_some, Vi.oL_some, Vi.rdV_fz, Vi.rdV_ol, Vi.rdV2_some, Vi.mvV_ol, Vi.mvV_fz, Vi.rdVar_c, Vi.ev_var, Vi.ev_mv, Vi.ev_int, Vi.ev_bl, Vi.ev_non, Vi.ev_str, Vi.ev_gi, Vi.ev_gs, Vi.ev_bin, Vi.ev_neg, Vi.ev_cmp, Vi.evT_cmp, Vi.ev_chain, Vi.ev_one, Vi.andK_b, Vi.orK_b, Vi.notK_b, Vi.ev_and, Vi.ev_or, Vi.ev_not, Vi.isB_b, Vi.ev_ite, Vi.ev_tup, Vi.ev_lst, Vi.ev_ix, Vi.ev_slc, Vi.evP_no, Vi.evP_yes, Vi.ev_call, Vi.calK_some, Vi.calR_ok, Vi.evA_nil, Vi.evA_e, Vi.evA_o, Vi.args_nil, Vi.args_e, Vi.args_o, Vi.argK_s, Vi.asm_nil, Vi.asm_e, Vi.asm_o, Vi.asmK_s, Vi.lent_ol, Vi.lent_sc, Vi.lent_fz, Vi.put_nil, Vi.put_e, Vi.put_o, Vi.ev_blt, Vi.ev_isi, Vi.ev_lsc, Vi.lscK_s, Vi.cmpK_ok, Vi.ev_lc, Vi.evC_no, Vi.evC_yes, Vi.evI_e, Vi.evI_r1, Vi.evI_r2, Vi.evs_nil, Vi.evs_cons, Vi.evO_nil, Vi.evO_cons, Vi.olO_s, Vi.olOf_c, Vi.appK_s, Vi.appK2_s, Vi.ev_app, Vi.bwK_ok, Vi.ev_bw, Vi.bwK'_ok, Vi.evT_bw, Vi.evT_chain, Vi.evT_one, Vi.evT_and, Vi.evT_or, Vi.evT_not, Vi.evT_var, Vi.evT_call, Vi.evT_isi, Vi.evT_blt, Vi.evT_ix, Vi.evT_bin, Vi.evT_bl, Vi.ex_pass, Vi.ex_asg, Vi.ex_expr, Vi.ex_ret, Vi.ex_retN, Vi.ex_if, Vi.ex_for, Vi.setK_s, Vi.setK2_s, Vi.setK3_s, Vi.ex_set, Vi.ex_aug, Vi.ex_augS, Vi.augM, Vi.augSM, Vi.exs_nil, Vi.exs_cons, Vi.run_b, Vi.runK_ret, Vi.runK_nx, Vi.frzE_nil, Vi.frz_cons, Vi.frzK_ol, Vi.frzK2_s, Vi.frzK_fz, Vi.frzK_no, Vi.frzK_olI, Vi.rdV_olI, Vi.mvV_olI, Vi.olO_olI, Vi.lent_olI, Vi.closed_olI, Vi.dOf_fz, Vi.dOf_olI, Vi.dOf_olI', Vi.dsOf_fz, Vi.dsOf_ints, Vi.dsOf_nil, Vi.dsOf_cons, Option.map_some, Vi.binD, Vi.add_int, Vi.sub_int, Vi.cmpD, Vi.lt_int, Vi.le_int, Vi.gt_int, Vi.ge_int, Vi.neg_int, Vi.bf_len_l, Vi.bf_len_t, Vi.bf_len_s, Vi.bf_abs, Vi.bf_int, Vi.bf_intb, Vi.bf_max2, Vi.bf_min2, Vi.bf_list_l, Vi.bf_list_t, Vi.bf_tup_l, Vi.bf_sum, Vi.ix_l, Vi.ix_t, Vi.ix_s, Vi.isiD, Vi.chain2, Vi.iop_add, Vi.iop_sub, Vi.it_l, Vi.it_t, Vi.it_s, Vi.lentOk, Vi.outs_nil, Vi.outs_fz, Vi.outs_c, List.tail_cons, Vi.killE, Vi.noOwn, Vi.closed, Vi.closeds, Vi.closedD, Vi.closeds_ints, Vi.wipeE, Vi.resE, Vi.bd_nm, Vi.bd_tp, Vi.bdN, Vi.bdT, Vi.bdsN, Vi.bdNil, Vi.bdCons, Vi.Tg.js, Vi.partM, Vi.eq_int, Vi.eq_str, Vi.eq_bool, Vi.eq_ints, h2, h3, feedV, olI]
theorem at0 {α : Type} {a b c d : α} : atI [a, b, c, d] 0 = some a := rfl
theorem at1 {α : Type} {a b c d : α} : atI [a, b, c, d] 1 = some b := rfl
theorem at2 {α : Type} {a b c d : α} : atI [a, b, c, d] 2 = some c := rfl
theorem at3 {α : Type} {a b c d : α} : atI [a, b, c, d] 3 = some d := rfl
theorem ixN1 : ixN 4 1 = some 1 := rfl
theorem ixN2 : ixN 4 2 = some 2 := rfl
theorem ixN3 : ixN 4 3 = some 3 := rfl
theorem draw2_ok {ns : List Int} {i big seed many : Int} {c : Option OV} (hi : 0 ≤ i) (hb : 0 ≤ big) (hs : 0 ≤ seed) (hs2 : seed < 2147483647) (hm : 0 < many) (hm2 : many < 2 ^ 64) :
    ∃ (r : Int) (e1 : Option OV) (e2 : List (Option OV)) (o' : OV), 0 ≤ r ∧ r < many ∧ IsFeed o' ∧ exs rho__law_draw [0] bodT [some (feedV ns i big seed), some (.fz (.int many)), none, c, none] = .ret (.fz (.int r)) (some o' :: e1 :: e2) := by
  have d1 : ∀ a, fdivD (.int a) (.int many) = some (.fz (.int (a / many))) := fun a => div_e hm hm2
  have d2 : ∀ a, modD (.int a) (.int many) = some (.fz (.int (a % many))) := fun a => mod_e hm
  have d3 : ∀ a, modD (.int a) (.int 2147483647) = some (.fz (.int (a % 2147483647))) := fun a => mod_e (by decide)
  have d4 : ∀ a, modD (.int a) (.int 2147483629) = some (.fz (.int (a % 2147483629))) := fun a => mod_e (by decide)
  have d5 : ∀ a, fdivD (.int a) (.int 11) = some (.fz (.int (a / 11))) := fun a => div_e (by decide) (by decide)
  have d6 : ∀ a, mulD (.int a) (.int 16807) = some (.fz (.int (a * 16807))) := fun a => mul_r (by decide)
  have d7 : ∀ a b : Int, mulD (.int (a % 2147483647)) (.int b) = some (.fz (.int (a % 2147483647 * b))) := fun a b => mul_l (by omega)
  by_cases hg : 0 < big
  · refine ⟨big % many, some (.fz (.int many)), [none, c, some (.fz (.int (big % many)))], feedV ns i (big / many) seed, Int.emod_nonneg _ (by omega), Int.emod_lt_of_pos _ hm, ⟨ns, i, big / many, seed, rfl, hi, Int.ediv_nonneg hb (by omega), hs, hs2⟩, ?_⟩
    simp [bodT, Vi.bind_ok, Vi.bind_bad, Vi.bind_ex, Vi.so_ok, Vi.sb_nx, Vi.sb_ret, Vi.sb_bad, Vi.d_fz, Vi.d_olI, Vi.d_ol, Vi.o_some, Vi.tst_b, Vi.tst_i, Vi.tst_l, Vi.tst_s, Vi.tst_n, Vi.oB_some, Vi.oP_some, Vi.oL_some, Vi.rdV_fz, Vi.rdV_ol, Vi.rdV2_some, Vi.mvV_ol, Vi.mvV_fz, Vi.rdVar_c, Vi.ev_var, Vi.ev_mv, Vi.ev_int, Vi.ev_bl, Vi.ev_non, Vi.ev_str, Vi.ev_gi, Vi.ev_gs, Vi.ev_bin, Vi.ev_neg, Vi.ev_cmp, Vi.evT_cmp, Vi.ev_chain, Vi.ev_one, Vi.andK_b, Vi.orK_b, Vi.notK_b, Vi.ev_and, Vi.ev_or, Vi.ev_not, Vi.isB_b, Vi.ev_ite, Vi.ev_tup, Vi.ev_lst, Vi.ev_ix, Vi.ev_slc, Vi.evP_no, Vi.evP_yes, Vi.ev_call, Vi.calK_some, Vi.calR_ok, Vi.evA_nil, Vi.evA_e, Vi.evA_o, Vi.args_nil, Vi.args_e, Vi.args_o, Vi.argK_s, Vi.asm_nil, Vi.asm_e, Vi.asm_o, Vi.asmK_s, Vi.lent_ol, Vi.lent_sc, Vi.lent_fz, Vi.put_nil, Vi.put_e, Vi.put_o, Vi.ev_blt, Vi.ev_isi, Vi.ev_lsc, Vi.lscK_s, Vi.cmpK_ok, Vi.ev_lc, Vi.evC_no, Vi.evC_yes, Vi.evI_e, Vi.evI_r1, Vi.evI_r2, Vi.evs_nil, Vi.evs_cons, Vi.evO_nil, Vi.evO_cons, Vi.olO_s, Vi.olOf_c, Vi.appK_s, Vi.appK2_s, Vi.ev_app, Vi.bwK_ok, Vi.ev_bw, Vi.bwK'_ok, Vi.evT_bw, Vi.evT_chain, Vi.evT_one, Vi.evT_and, Vi.evT_or, Vi.evT_not, Vi.evT_var, Vi.evT_call, Vi.evT_isi, Vi.evT_blt, Vi.evT_ix, Vi.evT_bin, Vi.evT_bl, Vi.ex_pass, Vi.ex_asg, Vi.ex_expr, Vi.ex_ret, Vi.ex_retN, Vi.ex_if, Vi.ex_for, Vi.setK_s, Vi.setK2_s, Vi.setK3_s, Vi.ex_set, Vi.ex_aug, Vi.ex_augS, Vi.augM, Vi.augSM, Vi.exs_nil, Vi.exs_cons, Vi.run_b, Vi.runK_ret, Vi.runK_nx, Vi.frzE_nil, Vi.frz_cons, Vi.frzK_ol, Vi.frzK2_s, Vi.frzK_fz, Vi.frzK_no, Vi.frzK_olI, Vi.rdV_olI, Vi.mvV_olI, Vi.olO_olI, Vi.lent_olI, Vi.closed_olI, Vi.dOf_fz, Vi.dOf_olI, Vi.dOf_olI', Vi.dsOf_fz, Vi.dsOf_ints, Vi.dsOf_nil, Vi.dsOf_cons, Option.map_some, Vi.binD, Vi.add_int, Vi.sub_int, Vi.cmpD, Vi.lt_int, Vi.le_int, Vi.gt_int, Vi.ge_int, Vi.neg_int, Vi.bf_len_l, Vi.bf_len_t, Vi.bf_len_s, Vi.bf_abs, Vi.bf_int, Vi.bf_intb, Vi.bf_max2, Vi.bf_min2, Vi.bf_list_l, Vi.bf_list_t, Vi.bf_tup_l, Vi.bf_sum, Vi.ix_l, Vi.ix_t, Vi.ix_s, Vi.isiD, Vi.chain2, Vi.iop_add, Vi.iop_sub, Vi.it_l, Vi.it_t, Vi.it_s, Vi.lentOk, Vi.outs_nil, Vi.outs_fz, Vi.outs_c, List.tail_cons, Vi.killE, Vi.noOwn, Vi.closed, Vi.closeds, Vi.closedD, Vi.closeds_ints, Vi.wipeE, Vi.resE, Vi.bd_nm, Vi.bd_tp, Vi.bdN, Vi.bdT, Vi.bdsN, Vi.bdNil, Vi.bdCons, Vi.Tg.js, Vi.partM, Vi.eq_int, Vi.eq_str, Vi.eq_bool, Vi.eq_ints, feedV, at0, at1, at2, at3, d1, d2, hg, ixN2]
  · have h0 : big = 0 := by omega
    subst h0
    refine ⟨((seed * 16807 + 12345) % 2147483647 * ((seed * 16807 + 12345) % 2147483647) + (seed * 16807 + 12345) % 2147483647) % 2147483629 / 11 % many, some (.fz (.int many)), [some (.fz (.int (((seed * 16807 + 12345) % 2147483647 * ((seed * 16807 + 12345) % 2147483647) + (seed * 16807 + 12345) % 2147483647) % 2147483629))), c, none], feedV ns i 0 ((seed * 16807 + 12345) % 2147483647), Int.emod_nonneg _ (by omega), Int.emod_lt_of_pos _ hm, ⟨ns, i, 0, (seed * 16807 + 12345) % 2147483647, rfl, hi, by omega, by omega, by omega⟩, ?_⟩
    simp [bodT, Vi.bind_ok, Vi.bind_bad, Vi.bind_ex, Vi.so_ok, Vi.sb_nx, Vi.sb_ret, Vi.sb_bad, Vi.d_fz, Vi.d_olI, Vi.d_ol, Vi.o_some, Vi.tst_b, Vi.tst_i, Vi.tst_l, Vi.tst_s, Vi.tst_n, Vi.oB_some, Vi.oP_some, Vi.oL_some, Vi.rdV_fz, Vi.rdV_ol, Vi.rdV2_some, Vi.mvV_ol, Vi.mvV_fz, Vi.rdVar_c, Vi.ev_var, Vi.ev_mv, Vi.ev_int, Vi.ev_bl, Vi.ev_non, Vi.ev_str, Vi.ev_gi, Vi.ev_gs, Vi.ev_bin, Vi.ev_neg, Vi.ev_cmp, Vi.evT_cmp, Vi.ev_chain, Vi.ev_one, Vi.andK_b, Vi.orK_b, Vi.notK_b, Vi.ev_and, Vi.ev_or, Vi.ev_not, Vi.isB_b, Vi.ev_ite, Vi.ev_tup, Vi.ev_lst, Vi.ev_ix, Vi.ev_slc, Vi.evP_no, Vi.evP_yes, Vi.ev_call, Vi.calK_some, Vi.calR_ok, Vi.evA_nil, Vi.evA_e, Vi.evA_o, Vi.args_nil, Vi.args_e, Vi.args_o, Vi.argK_s, Vi.asm_nil, Vi.asm_e, Vi.asm_o, Vi.asmK_s, Vi.lent_ol, Vi.lent_sc, Vi.lent_fz, Vi.put_nil, Vi.put_e, Vi.put_o, Vi.ev_blt, Vi.ev_isi, Vi.ev_lsc, Vi.lscK_s, Vi.cmpK_ok, Vi.ev_lc, Vi.evC_no, Vi.evC_yes, Vi.evI_e, Vi.evI_r1, Vi.evI_r2, Vi.evs_nil, Vi.evs_cons, Vi.evO_nil, Vi.evO_cons, Vi.olO_s, Vi.olOf_c, Vi.appK_s, Vi.appK2_s, Vi.ev_app, Vi.bwK_ok, Vi.ev_bw, Vi.bwK'_ok, Vi.evT_bw, Vi.evT_chain, Vi.evT_one, Vi.evT_and, Vi.evT_or, Vi.evT_not, Vi.evT_var, Vi.evT_call, Vi.evT_isi, Vi.evT_blt, Vi.evT_ix, Vi.evT_bin, Vi.evT_bl, Vi.ex_pass, Vi.ex_asg, Vi.ex_expr, Vi.ex_ret, Vi.ex_retN, Vi.ex_if, Vi.ex_for, Vi.setK_s, Vi.setK2_s, Vi.setK3_s, Vi.ex_set, Vi.ex_aug, Vi.ex_augS, Vi.augM, Vi.augSM, Vi.exs_nil, Vi.exs_cons, Vi.run_b, Vi.runK_ret, Vi.runK_nx, Vi.frzE_nil, Vi.frz_cons, Vi.frzK_ol, Vi.frzK2_s, Vi.frzK_fz, Vi.frzK_no, Vi.frzK_olI, Vi.rdV_olI, Vi.mvV_olI, Vi.olO_olI, Vi.lent_olI, Vi.closed_olI, Vi.dOf_fz, Vi.dOf_olI, Vi.dOf_olI', Vi.dsOf_fz, Vi.dsOf_ints, Vi.dsOf_nil, Vi.dsOf_cons, Option.map_some, Vi.binD, Vi.add_int, Vi.sub_int, Vi.cmpD, Vi.lt_int, Vi.le_int, Vi.gt_int, Vi.ge_int, Vi.neg_int, Vi.bf_len_l, Vi.bf_len_t, Vi.bf_len_s, Vi.bf_abs, Vi.bf_int, Vi.bf_intb, Vi.bf_max2, Vi.bf_min2, Vi.bf_list_l, Vi.bf_list_t, Vi.bf_tup_l, Vi.bf_sum, Vi.ix_l, Vi.ix_t, Vi.ix_s, Vi.isiD, Vi.chain2, Vi.iop_add, Vi.iop_sub, Vi.it_l, Vi.it_t, Vi.it_s, Vi.lentOk, Vi.outs_nil, Vi.outs_fz, Vi.outs_c, List.tail_cons, Vi.killE, Vi.noOwn, Vi.closed, Vi.closeds, Vi.closedD, Vi.closeds_ints, Vi.wipeE, Vi.resE, Vi.bd_nm, Vi.bd_tp, Vi.bdN, Vi.bdT, Vi.bdsN, Vi.bdNil, Vi.bdCons, Vi.Tg.js, Vi.partM, Vi.eq_int, Vi.eq_str, Vi.eq_bool, Vi.eq_ints, feedV, at0, at1, at2, at3, d1, d2, d3, d4, d5, d6, d7, ixN3]
theorem draw_ok {o : OV} (hf : IsFeed o) {many : Int} (hm : 0 < many) (hm2 : many < 2 ^ 64) : ∃ (r : Int) (o' : OV), den__law_draw [o, .fz (.int many)] = .ok (.fz (.int r)) [some o', none] ∧ 0 ≤ r ∧ r < many ∧ IsFeed o' := by
  obtain ⟨ns, i, big, seed, rfl, hi, hb, hs, hs2⟩ := hf
  have d3 : ∀ a, modD (.int a) (.int 2147483647) = some (.fz (.int (a % 2147483647))) := fun a => mod_e (by decide)
  have d6 : ∀ a, mulD (.int a) (.int 48271) = some (.fz (.int (a * 48271))) := fun a => mul_r (by decide)
  have d8 : ∀ a, mulD (.int a) (.int 69621) = some (.fz (.int (a * 69621))) := fun a => mul_r (by decide)
  by_cases hc : big = 0 ∧ i < ns.length
  · obtain ⟨rfl, hc⟩ := hc
    obtain ⟨j, rfl⟩ : ∃ j : Nat, i = (j : Int) := ⟨i.toNat, by omega⟩
    have hj : j < ns.length := by omega
    have hat : atI (ns.map PyData.int) (j : Int) = some (.int ns[j]) := by rw [atI_nat]; simp [hj]
    generalize hcell : (if ns[j] < 0 then -ns[j] else ns[j]) = cell
    have hcell0 : 0 ≤ cell := by rw [← hcell]; split <;> omega
    by_cases hbig : (1000000000000000000 : Int) ≤ cell
    · obtain ⟨r, e1, e2, o', h1, h2, h3, q⟩ := @draw2_ok ns (j + 1) cell seed many (some (.fz (.int cell))) (by omega) (by omega) hs hs2 hm hm2
      refine ⟨r, o', ?_, h1, h2, h3⟩
      simp only [feedV] at q
      simp [den__law_draw, bod__law_draw, Vi.bind_ok, Vi.bind_bad, Vi.bind_ex, Vi.so_ok, Vi.sb_nx, Vi.sb_ret, Vi.sb_bad, Vi.d_fz, Vi.d_olI, Vi.d_ol, Vi.o_some, Vi.tst_b, Vi.tst_i, Vi.tst_l, Vi.tst_s, Vi.tst_n, Vi.oB_some, Vi.oP_some, Vi.oL_some, Vi.rdV_fz, Vi.rdV_ol, Vi.rdV2_some, Vi.mvV_ol, Vi.mvV_fz, Vi.rdVar_c, Vi.ev_var, Vi.ev_mv, Vi.ev_int, Vi.ev_bl, Vi.ev_non, Vi.ev_str, Vi.ev_gi, Vi.ev_gs, Vi.ev_bin, Vi.ev_neg, Vi.ev_cmp, Vi.evT_cmp, Vi.ev_chain, Vi.ev_one, Vi.andK_b, Vi.orK_b, Vi.notK_b, Vi.ev_and, Vi.ev_or, Vi.ev_not, Vi.isB_b, Vi.ev_ite, Vi.ev_tup, Vi.ev_lst, Vi.ev_ix, Vi.ev_slc, Vi.evP_no, Vi.evP_yes, Vi.ev_call, Vi.calK_some, Vi.calR_ok, Vi.evA_nil, Vi.evA_e, Vi.evA_o, Vi.args_nil, Vi.args_e, Vi.args_o, Vi.argK_s, Vi.asm_nil, Vi.asm_e, Vi.asm_o, Vi.asmK_s, Vi.lent_ol, Vi.lent_sc, Vi.lent_fz, Vi.put_nil, Vi.put_e, Vi.put_o, Vi.ev_blt, Vi.ev_isi, Vi.ev_lsc, Vi.lscK_s, Vi.cmpK_ok, Vi.ev_lc, Vi.evC_no, Vi.evC_yes, Vi.evI_e, Vi.evI_r1, Vi.evI_r2, Vi.evs_nil, Vi.evs_cons, Vi.evO_nil, Vi.evO_cons, Vi.olO_s, Vi.olOf_c, Vi.appK_s, Vi.appK2_s, Vi.ev_app, Vi.bwK_ok, Vi.ev_bw, Vi.bwK'_ok, Vi.evT_bw, Vi.evT_chain, Vi.evT_one, Vi.evT_and, Vi.evT_or, Vi.evT_not, Vi.evT_var, Vi.evT_call, Vi.evT_isi, Vi.evT_blt, Vi.evT_ix, Vi.evT_bin, Vi.evT_bl, Vi.ex_pass, Vi.ex_asg, Vi.ex_expr, Vi.ex_ret, Vi.ex_retN, Vi.ex_if, Vi.ex_for, Vi.setK_s, Vi.setK2_s, Vi.setK3_s, Vi.ex_set, Vi.ex_aug, Vi.ex_augS, Vi.augM, Vi.augSM, Vi.exs_nil, Vi.exs_cons, Vi.run_b, Vi.runK_ret, Vi.runK_nx, Vi.frzE_nil, Vi.frz_cons, Vi.frzK_ol, Vi.frzK2_s, Vi.frzK_fz, Vi.frzK_no, Vi.frzK_olI, Vi.rdV_olI, Vi.mvV_olI, Vi.olO_olI, Vi.lent_olI, Vi.closed_olI, Vi.dOf_fz, Vi.dOf_olI, Vi.dOf_olI', Vi.dsOf_fz, Vi.dsOf_ints, Vi.dsOf_nil, Vi.dsOf_cons, Option.map_some, Vi.binD, Vi.add_int, Vi.sub_int, Vi.cmpD, Vi.lt_int, Vi.le_int, Vi.gt_int, Vi.ge_int, Vi.neg_int, Vi.bf_len_l, Vi.bf_len_t, Vi.bf_len_s, Vi.bf_abs, Vi.bf_int, Vi.bf_intb, Vi.bf_max2, Vi.bf_min2, Vi.bf_list_l, Vi.bf_list_t, Vi.bf_tup_l, Vi.bf_sum, Vi.ix_l, Vi.ix_t, Vi.ix_s, Vi.isiD, Vi.chain2, Vi.iop_add, Vi.iop_sub, Vi.it_l, Vi.it_t, Vi.it_s, Vi.lentOk, Vi.outs_nil, Vi.outs_fz, Vi.outs_c, List.tail_cons, Vi.killE, Vi.noOwn, Vi.closed, Vi.closeds, Vi.closedD, Vi.closeds_ints, Vi.wipeE, Vi.resE, Vi.bd_nm, Vi.bd_tp, Vi.bdN, Vi.bdT, Vi.bdsN, Vi.bdNil, Vi.bdCons, Vi.Tg.js, Vi.partM, Vi.eq_int, Vi.eq_str, Vi.eq_bool, Vi.eq_ints, feedV, at0, at1, at2, at3, hj, hat, hcell, hbig, ixN1, ixN2, powD, q]
    · obtain ⟨r, e1, e2, o', h1, h2, h3, q⟩ := @draw2_ok ns (j + 1) 0 ((seed * 48271 + cell * 69621 + (j + 1)) % 2147483647) many (some (.fz (.int cell))) (by omega) (by omega) (by omega) (by omega) hm hm2
      refine ⟨r, o', ?_, h1, h2, h3⟩
      simp only [feedV] at q
      simp [den__law_draw, bod__law_draw, Vi.bind_ok, Vi.bind_bad, Vi.bind_ex, Vi.so_ok, Vi.sb_nx, Vi.sb_ret, Vi.sb_bad, Vi.d_fz, Vi.d_olI, Vi.d_ol, Vi.o_some, Vi.tst_b, Vi.tst_i, Vi.tst_l, Vi.tst_s, Vi.tst_n, Vi.oB_some, Vi.oP_some, Vi.oL_some, Vi.rdV_fz, Vi.rdV_ol, Vi.rdV2_some, Vi.mvV_ol, Vi.mvV_fz, Vi.rdVar_c, Vi.ev_var, Vi.ev_mv, Vi.ev_int, Vi.ev_bl, Vi.ev_non, Vi.ev_str, Vi.ev_gi, Vi.ev_gs, Vi.ev_bin, Vi.ev_neg, Vi.ev_cmp, Vi.evT_cmp, Vi.ev_chain, Vi.ev_one, Vi.andK_b, Vi.orK_b, Vi.notK_b, Vi.ev_and, Vi.ev_or, Vi.ev_not, Vi.isB_b, Vi.ev_ite, Vi.ev_tup, Vi.ev_lst, Vi.ev_ix, Vi.ev_slc, Vi.evP_no, Vi.evP_yes, Vi.ev_call, Vi.calK_some, Vi.calR_ok, Vi.evA_nil, Vi.evA_e, Vi.evA_o, Vi.args_nil, Vi.args_e, Vi.args_o, Vi.argK_s, Vi.asm_nil, Vi.asm_e, Vi.asm_o, Vi.asmK_s, Vi.lent_ol, Vi.lent_sc, Vi.lent_fz, Vi.put_nil, Vi.put_e, Vi.put_o, Vi.ev_blt, Vi.ev_isi, Vi.ev_lsc, Vi.lscK_s, Vi.cmpK_ok, Vi.ev_lc, Vi.evC_no, Vi.evC_yes, Vi.evI_e, Vi.evI_r1, Vi.evI_r2, Vi.evs_nil, Vi.evs_cons, Vi.evO_nil, Vi.evO_cons, Vi.olO_s, Vi.olOf_c, Vi.appK_s, Vi.appK2_s, Vi.ev_app, Vi.bwK_ok, Vi.ev_bw, Vi.bwK'_ok, Vi.evT_bw, Vi.evT_chain, Vi.evT_one, Vi.evT_and, Vi.evT_or, Vi.evT_not, Vi.evT_var, Vi.evT_call, Vi.evT_isi, Vi.evT_blt, Vi.evT_ix, Vi.evT_bin, Vi.evT_bl, Vi.ex_pass, Vi.ex_asg, Vi.ex_expr, Vi.ex_ret, Vi.ex_retN, Vi.ex_if, Vi.ex_for, Vi.setK_s, Vi.setK2_s, Vi.setK3_s, Vi.ex_set, Vi.ex_aug, Vi.ex_augS, Vi.augM, Vi.augSM, Vi.exs_nil, Vi.exs_cons, Vi.run_b, Vi.runK_ret, Vi.runK_nx, Vi.frzE_nil, Vi.frz_cons, Vi.frzK_ol, Vi.frzK2_s, Vi.frzK_fz, Vi.frzK_no, Vi.frzK_olI, Vi.rdV_olI, Vi.mvV_olI, Vi.olO_olI, Vi.lent_olI, Vi.closed_olI, Vi.dOf_fz, Vi.dOf_olI, Vi.dOf_olI', Vi.dsOf_fz, Vi.dsOf_ints, Vi.dsOf_nil, Vi.dsOf_cons, Option.map_some, Vi.binD, Vi.add_int, Vi.sub_int, Vi.cmpD, Vi.lt_int, Vi.le_int, Vi.gt_int, Vi.ge_int, Vi.neg_int, Vi.bf_len_l, Vi.bf_len_t, Vi.bf_len_s, Vi.bf_abs, Vi.bf_int, Vi.bf_intb, Vi.bf_max2, Vi.bf_min2, Vi.bf_list_l, Vi.bf_list_t, Vi.bf_tup_l, Vi.bf_sum, Vi.ix_l, Vi.ix_t, Vi.ix_s, Vi.isiD, Vi.chain2, Vi.iop_add, Vi.iop_sub, Vi.it_l, Vi.it_t, Vi.it_s, Vi.lentOk, Vi.outs_nil, Vi.outs_fz, Vi.outs_c, List.tail_cons, Vi.killE, Vi.noOwn, Vi.closed, Vi.closeds, Vi.closedD, Vi.closeds_ints, Vi.wipeE, Vi.resE, Vi.bd_nm, Vi.bd_tp, Vi.bdN, Vi.bdT, Vi.bdsN, Vi.bdNil, Vi.bdCons, Vi.Tg.js, Vi.partM, Vi.eq_int, Vi.eq_str, Vi.eq_bool, Vi.eq_ints, feedV, at0, at1, at2, at3, hj, hat, hcell, hbig, ixN1, ixN2, ixN3, powD, d3, d6, d8, q]
  · obtain ⟨r, e1, e2, o', h1, h2, h3, q⟩ := @draw2_ok ns i big seed many none hi hb hs hs2 hm hm2
    refine ⟨r, o', ?_, h1, h2, h3⟩
    simp only [feedV] at q
    by_cases hb0 : big = 0
    · have hl : ¬ i < (ns.length : Int) := fun z => hc ⟨hb0, z⟩
      subst hb0
      simp [den__law_draw, bod__law_draw, Vi.bind_ok, Vi.bind_bad, Vi.bind_ex, Vi.so_ok, Vi.sb_nx, Vi.sb_ret, Vi.sb_bad, Vi.d_fz, Vi.d_olI, Vi.d_ol, Vi.o_some, Vi.tst_b, Vi.tst_i, Vi.tst_l, Vi.tst_s, Vi.tst_n, Vi.oB_some, Vi.oP_some, Vi.oL_some, Vi.rdV_fz, Vi.rdV_ol, Vi.rdV2_some, Vi.mvV_ol, Vi.mvV_fz, Vi.rdVar_c, Vi.ev_var, Vi.ev_mv, Vi.ev_int, Vi.ev_bl, Vi.ev_non, Vi.ev_str, Vi.ev_gi, Vi.ev_gs, Vi.ev_bin, Vi.ev_neg, Vi.ev_cmp, Vi.evT_cmp, Vi.ev_chain, Vi.ev_one, Vi.andK_b, Vi.orK_b, Vi.notK_b, Vi.ev_and, Vi.ev_or, Vi.ev_not, Vi.isB_b, Vi.ev_ite, Vi.ev_tup, Vi.ev_lst, Vi.ev_ix, Vi.ev_slc, Vi.evP_no, Vi.evP_yes, Vi.ev_call, Vi.calK_some, Vi.calR_ok, Vi.evA_nil, Vi.evA_e, Vi.evA_o, Vi.args_nil, Vi.args_e, Vi.args_o, Vi.argK_s, Vi.asm_nil, Vi.asm_e, Vi.asm_o, Vi.asmK_s, Vi.lent_ol, Vi.lent_sc, Vi.lent_fz, Vi.put_nil, Vi.put_e, Vi.put_o, Vi.ev_blt, Vi.ev_isi, Vi.ev_lsc, Vi.lscK_s, Vi.cmpK_ok, Vi.ev_lc, Vi.evC_no, Vi.evC_yes, Vi.evI_e, Vi.evI_r1, Vi.evI_r2, Vi.evs_nil, Vi.evs_cons, Vi.evO_nil, Vi.evO_cons, Vi.olO_s, Vi.olOf_c, Vi.appK_s, Vi.appK2_s, Vi.ev_app, Vi.bwK_ok, Vi.ev_bw, Vi.bwK'_ok, Vi.evT_bw, Vi.evT_chain, Vi.evT_one, Vi.evT_and, Vi.evT_or, Vi.evT_not, Vi.evT_var, Vi.evT_call, Vi.evT_isi, Vi.evT_blt, Vi.evT_ix, Vi.evT_bin, Vi.evT_bl, Vi.ex_pass, Vi.ex_asg, Vi.ex_expr, Vi.ex_ret, Vi.ex_retN, Vi.ex_if, Vi.ex_for, Vi.setK_s, Vi.setK2_s, Vi.setK3_s, Vi.ex_set, Vi.ex_aug, Vi.ex_augS, Vi.augM, Vi.augSM, Vi.exs_nil, Vi.exs_cons, Vi.run_b, Vi.runK_ret, Vi.runK_nx, Vi.frzE_nil, Vi.frz_cons, Vi.frzK_ol, Vi.frzK2_s, Vi.frzK_fz, Vi.frzK_no, Vi.frzK_olI, Vi.rdV_olI, Vi.mvV_olI, Vi.olO_olI, Vi.lent_olI, Vi.closed_olI, Vi.dOf_fz, Vi.dOf_olI, Vi.dOf_olI', Vi.dsOf_fz, Vi.dsOf_ints, Vi.dsOf_nil, Vi.dsOf_cons, Option.map_some, Vi.binD, Vi.add_int, Vi.sub_int, Vi.cmpD, Vi.lt_int, Vi.le_int, Vi.gt_int, Vi.ge_int, Vi.neg_int, Vi.bf_len_l, Vi.bf_len_t, Vi.bf_len_s, Vi.bf_abs, Vi.bf_int, Vi.bf_intb, Vi.bf_max2, Vi.bf_min2, Vi.bf_list_l, Vi.bf_list_t, Vi.bf_tup_l, Vi.bf_sum, Vi.ix_l, Vi.ix_t, Vi.ix_s, Vi.isiD, Vi.chain2, Vi.iop_add, Vi.iop_sub, Vi.it_l, Vi.it_t, Vi.it_s, Vi.lentOk, Vi.outs_nil, Vi.outs_fz, Vi.outs_c, List.tail_cons, Vi.killE, Vi.noOwn, Vi.closed, Vi.closeds, Vi.closedD, Vi.closeds_ints, Vi.wipeE, Vi.resE, Vi.bd_nm, Vi.bd_tp, Vi.bdN, Vi.bdT, Vi.bdsN, Vi.bdNil, Vi.bdCons, Vi.Tg.js, Vi.partM, Vi.eq_int, Vi.eq_str, Vi.eq_bool, Vi.eq_ints, feedV, at0, at1, at2, at3, hl, q]
    · simp [den__law_draw, bod__law_draw, Vi.bind_ok, Vi.bind_bad, Vi.bind_ex, Vi.so_ok, Vi.sb_nx, Vi.sb_ret, Vi.sb_bad, Vi.d_fz, Vi.d_olI, Vi.d_ol, Vi.o_some, Vi.tst_b, Vi.tst_i, Vi.tst_l, Vi.tst_s, Vi.tst_n, Vi.oB_some, Vi.oP_some, Vi.oL_some, Vi.rdV_fz, Vi.rdV_ol, Vi.rdV2_some, Vi.mvV_ol, Vi.mvV_fz, Vi.rdVar_c, Vi.ev_var, Vi.ev_mv, Vi.ev_int, Vi.ev_bl, Vi.ev_non, Vi.ev_str, Vi.ev_gi, Vi.ev_gs, Vi.ev_bin, Vi.ev_neg, Vi.ev_cmp, Vi.evT_cmp, Vi.ev_chain, Vi.ev_one, Vi.andK_b, Vi.orK_b, Vi.notK_b, Vi.ev_and, Vi.ev_or, Vi.ev_not, Vi.isB_b, Vi.ev_ite, Vi.ev_tup, Vi.ev_lst, Vi.ev_ix, Vi.ev_slc, Vi.evP_no, Vi.evP_yes, Vi.ev_call, Vi.calK_some, Vi.calR_ok, Vi.evA_nil, Vi.evA_e, Vi.evA_o, Vi.args_nil, Vi.args_e, Vi.args_o, Vi.argK_s, Vi.asm_nil, Vi.asm_e, Vi.asm_o, Vi.asmK_s, Vi.lent_ol, Vi.lent_sc, Vi.lent_fz, Vi.put_nil, Vi.put_e, Vi.put_o, Vi.ev_blt, Vi.ev_isi, Vi.ev_lsc, Vi.lscK_s, Vi.cmpK_ok, Vi.ev_lc, Vi.evC_no, Vi.evC_yes, Vi.evI_e, Vi.evI_r1, Vi.evI_r2, Vi.evs_nil, Vi.evs_cons, Vi.evO_nil, Vi.evO_cons, Vi.olO_s, Vi.olOf_c, Vi.appK_s, Vi.appK2_s, Vi.ev_app, Vi.bwK_ok, Vi.ev_bw, Vi.bwK'_ok, Vi.evT_bw, Vi.evT_chain, Vi.evT_one, Vi.evT_and, Vi.evT_or, Vi.evT_not, Vi.evT_var, Vi.evT_call, Vi.evT_isi, Vi.evT_blt, Vi.evT_ix, Vi.evT_bin, Vi.evT_bl, Vi.ex_pass, Vi.ex_asg, Vi.ex_expr, Vi.ex_ret, Vi.ex_retN, Vi.ex_if, Vi.ex_for, Vi.setK_s, Vi.setK2_s, Vi.setK3_s, Vi.ex_set, Vi.ex_aug, Vi.ex_augS, Vi.augM, Vi.augSM, Vi.exs_nil, Vi.exs_cons, Vi.run_b, Vi.runK_ret, Vi.runK_nx, Vi.frzE_nil, Vi.frz_cons, Vi.frzK_ol, Vi.frzK2_s, Vi.frzK_fz, Vi.frzK_no, Vi.frzK_olI, Vi.rdV_olI, Vi.mvV_olI, Vi.olO_olI, Vi.lent_olI, Vi.closed_olI, Vi.dOf_fz, Vi.dOf_olI, Vi.dOf_olI', Vi.dsOf_fz, Vi.dsOf_ints, Vi.dsOf_nil, Vi.dsOf_cons, Option.map_some, Vi.binD, Vi.add_int, Vi.sub_int, Vi.cmpD, Vi.lt_int, Vi.le_int, Vi.gt_int, Vi.ge_int, Vi.neg_int, Vi.bf_len_l, Vi.bf_len_t, Vi.bf_len_s, Vi.bf_abs, Vi.bf_int, Vi.bf_intb, Vi.bf_max2, Vi.bf_min2, Vi.bf_list_l, Vi.bf_list_t, Vi.bf_tup_l, Vi.bf_sum, Vi.ix_l, Vi.ix_t, Vi.ix_s, Vi.isiD, Vi.chain2, Vi.iop_add, Vi.iop_sub, Vi.it_l, Vi.it_t, Vi.it_s, Vi.lentOk, Vi.outs_nil, Vi.outs_fz, Vi.outs_c, List.tail_cons, Vi.killE, Vi.noOwn, Vi.closed, Vi.closeds, Vi.closedD, Vi.closeds_ints, Vi.wipeE, Vi.resE, Vi.bd_nm, Vi.bd_tp, Vi.bdN, Vi.bdT, Vi.bdsN, Vi.bdNil, Vi.bdCons, Vi.Tg.js, Vi.partM, Vi.eq_int, Vi.eq_str, Vi.eq_bool, Vi.eq_ints, feedV, at0, at1, at2, at3, hb0, q]
end Vi

set_option Elab.async false
set_option linter.all false
set_option maxRecDepth 100000
namespace K69
open Vi
theorem sorted_ext : ∀ {a b : List Int}, a.Pairwise (· < ·) → b.Pairwise (· < ·) → (∀ x, x ∈ a ↔ x ∈ b) → a = b
  | [], [], _, _, _ => rfl
  | [], y :: b, _, _, h => absurd ((h y).mpr List.mem_cons_self) (by simp)
  | x :: a, [], _, _, h => absurd ((h x).mp List.mem_cons_self) (by simp)
  | x :: a, y :: b, ha, hb, h => by
    rw [List.pairwise_cons] at ha hb
    have e : x = y := by
      have h1 := (h x).mp List.mem_cons_self
      have h2 := (h y).mpr List.mem_cons_self
      rw [List.mem_cons] at h1 h2
      rcases h1 with h1 | h1
      · exact h1
      · rcases h2 with h2 | h2
        · exact h2.symm
        · have := ha.1 _ h2
          have := hb.1 _ h1
          omega
    subst e
    refine congrArg _ (sorted_ext ha.2 hb.2 fun z => ?_)
    have := h z
    rw [List.mem_cons, List.mem_cons] at this
    constructor
    · intro hz
      have n := ha.1 _ hz
      rcases this.mp (.inr hz) with q | q
      · omega
      · exact q
    · intro hz
      have n := hb.1 _ hz
      rcases this.mpr (.inr hz) with q | q
      · omega
      · exact q
theorem rg_sorted (lo hi : Int) : (rgI lo hi).Pairwise (· < ·) := by
  unfold rgI
  rw [List.pairwise_map]
  refine List.Pairwise.imp (R := fun (a b : Nat) => a < b) (fun h => by omega) (List.pairwise_lt_range)
def isStep (p q m : Int) : Bool := decide ((m * q + p - 1) / p * p / q = m)
def isBelow (p q m : Int) : Bool := decide (m * q < (m + 1) * q / p * p)
def row (p q most : Int) : List Int := (rgI 1 (most + 1)).filter (isStep p q)
def rowB (p q most : Int) : List Int := (rgI 1 (most + 1)).filter (isBelow p q)
def dn (p q i : Int) : Int := i * p / q
def up (p q i : Int) : Int := (i * p + q - 1) / q - 1
def down (p q most : Int) : List Int := ((rgI 1 (most * q / p + q + 2)).filter fun i => decide (dn p q i ≤ most)).map (dn p q)
def below (p q most : Int) : List Int := ((rgI 1 ((most + 1) * q / p + q + 2)).filter fun i => decide (1 ≤ up p q i ∧ up p q i ≤ most)).map (up p q)
section
variable {p q m most i : Int}
theorem dn_iff (hq : 0 < q) : dn p q i = m ↔ m * q ≤ i * p ∧ i * p < (m + 1) * q := by
  unfold dn
  constructor
  · intro h
    have h1 := Int.ediv_mul_le (i * p) (b := q) (by omega)
    have h2 := Int.lt_ediv_add_one_mul_self (i * p) hq
    rw [h] at h1 h2
    exact ⟨h1, h2⟩
  · rintro ⟨h1, h2⟩
    have a := Int.le_ediv_of_mul_le hq h1
    have b := Int.ediv_lt_of_lt_mul hq h2
    omega
theorem cl_iff {a b c : Int} (hb : 0 < b) : (a + b - 1) / b = c ↔ (c - 1) * b < a ∧ a ≤ c * b := by
  constructor
  · intro h
    have h1 := Int.ediv_mul_le (a + b - 1) (b := b) (by omega)
    have h2 := Int.lt_ediv_add_one_mul_self (a + b - 1) hb
    rw [h] at h1 h2
    constructor
    · rw [Int.sub_mul]; omega
    · rw [Int.add_mul] at h2; omega
  · rintro ⟨h1, h2⟩
    have a1 : c * b ≤ a + b - 1 := by rw [Int.sub_mul] at h1; omega
    have a2 : a + b - 1 < (c + 1) * b := by rw [Int.add_mul]; omega
    have := Int.le_ediv_of_mul_le hb a1
    have := Int.ediv_lt_of_lt_mul hb a2
    omega
theorem up_iff (hq : 0 < q) : up p q i = m ↔ m * q < i * p ∧ i * p ≤ (m + 1) * q := by
  unfold up
  have := cl_iff (a := i * p) (b := q) (c := m + 1) hq
  rw [show m + 1 - 1 = m by omega] at this
  rw [← this]
  omega
theorem isStep_iff (hp : 0 < p) (hq : 0 < q) (hm : 1 ≤ m) : isStep p q m = true ↔ ∃ i, 1 ≤ i ∧ dn p q i = m := by
  unfold isStep
  rw [decide_eq_true_iff]
  obtain ⟨c, hc⟩ : ∃ c, c = (m * q + p - 1) / p := ⟨_, rfl⟩
  have k := (cl_iff hp).mp hc.symm
  have hmq : 0 < m * q := Int.mul_pos (by omega) hq
  rw [← hc]
  constructor
  · intro h
    refine ⟨c, ?_, h⟩
    by_cases z : 1 ≤ c
    · exact z
    · have : c * p ≤ 0 := Int.mul_nonpos_of_nonpos_of_nonneg (by omega) (by omega)
      omega
  · rintro ⟨i, h1, h2⟩
    have h2 := (dn_iff hq).mp h2
    refine (dn_iff hq).mpr ⟨k.2, ?_⟩
    have : c ≤ i := by
      by_cases z : c ≤ i
      · exact z
      · have := Int.mul_le_mul_of_nonneg_right (show i ≤ c - 1 by omega) (show 0 ≤ p by omega)
        omega
    have := Int.mul_le_mul_of_nonneg_right this (show 0 ≤ p by omega)
    omega
theorem isBelow_iff (hp : 0 < p) (hq : 0 < q) (hm : 1 ≤ m) : isBelow p q m = true ↔ ∃ i, 1 ≤ i ∧ up p q i = m := by
  unfold isBelow
  rw [decide_eq_true_iff]
  have h1 := Int.ediv_mul_le ((m + 1) * q) (b := p) (by omega)
  have h2 := Int.lt_ediv_add_one_mul_self ((m + 1) * q) hp
  have hmq : 0 < m * q := Int.mul_pos (by omega) hq
  generalize (m + 1) * q / p = c at h1 h2 ⊢
  constructor
  · intro h
    refine ⟨c, ?_, (up_iff hq).mpr ⟨h, h1⟩⟩
    by_cases z : 1 ≤ c
    · exact z
    · have : c * p ≤ 0 := Int.mul_nonpos_of_nonpos_of_nonneg (by omega) (by omega)
      omega
  · rintro ⟨i, _, h4⟩
    have h4 := (up_iff hq).mp h4
    have : i ≤ c := by
      by_cases z : i ≤ c
      · exact z
      · have := Int.mul_le_mul_of_nonneg_right (show c + 1 ≤ i by omega) (show 0 ≤ p by omega)
        omega
    have := Int.mul_le_mul_of_nonneg_right this (show 0 ≤ p by omega)
    omega
theorem dn_lt (hq : 0 < q) (hpq : q ≤ p) {i j : Int} (h : i < j) : dn p q i < dn p q j := by
  have a := (dn_iff (p := p) (i := i) hq).mp rfl
  have b := (dn_iff (p := p) (i := j) hq).mp rfl
  have := Int.mul_le_mul_of_nonneg_right (show i + 1 ≤ j by omega) (show 0 ≤ p by omega)
  rw [Int.add_mul] at this
  by_cases z : dn p q i < dn p q j
  · exact z
  · have := Int.mul_le_mul_of_nonneg_right (show dn p q j + 1 ≤ dn p q i + 1 by omega) (show 0 ≤ q by omega)
    rw [Int.add_mul (dn p q i)] at this
    omega
theorem up_lt (hq : 0 < q) (hpq : q ≤ p) {i j : Int} (h : i < j) : up p q i < up p q j := by
  have a := (up_iff (p := p) (i := i) hq).mp rfl
  have b := (up_iff (p := p) (i := j) hq).mp rfl
  have := Int.mul_le_mul_of_nonneg_right (show i + 1 ≤ j by omega) (show 0 ≤ p by omega)
  rw [Int.add_mul] at this
  by_cases z : up p q i < up p q j
  · exact z
  · have := Int.mul_le_mul_of_nonneg_right (show up p q j + 1 ≤ up p q i + 1 by omega) (show 0 ≤ q by omega)
    rw [Int.add_mul (up p q i)] at this
    omega
theorem sorted_map {f : Int → Int} {l : List Int} (hs : l.Pairwise (· < ·)) (hf : ∀ i j, i < j → f i < f j) : (l.map f).Pairwise (· < ·) := by
  rw [List.pairwise_map]
  exact hs.imp fun h => hf _ _ h
theorem down_sorted (hq : 0 < q) (hpq : q ≤ p) : (down p q most).Pairwise (· < ·) := sorted_map ((rg_sorted _ _).filter _) fun _ _ h => dn_lt hq hpq h
theorem below_sorted (hq : 0 < q) (hpq : q ≤ p) : (below p q most).Pairwise (· < ·) := sorted_map ((rg_sorted _ _).filter _) fun _ _ h => up_lt hq hpq h
/-- what numbers come below a bound -/
theorem dn_le (hq : 0 < q) : dn p q i ≤ most ↔ i * p < (most + 1) * q := by
  have a := (dn_iff (p := p) (i := i) hq).mp rfl
  constructor
  · intro h
    have := Int.mul_le_mul_of_nonneg_right (show dn p q i + 1 ≤ most + 1 by omega) (show 0 ≤ q by omega)
    omega
  · intro h
    by_cases z : dn p q i ≤ most
    · exact z
    · have := Int.mul_le_mul_of_nonneg_right (show most + 1 ≤ dn p q i by omega) (show 0 ≤ q by omega)
      omega
theorem up_le (hq : 0 < q) : up p q i ≤ most ↔ i * p ≤ (most + 1) * q := by
  have a := (up_iff (p := p) (i := i) hq).mp rfl
  constructor
  · intro h
    have := Int.mul_le_mul_of_nonneg_right (show up p q i + 1 ≤ most + 1 by omega) (show 0 ≤ q by omega)
    omega
  · intro h
    by_cases z : up p q i ≤ most
    · exact z
    · have := Int.mul_le_mul_of_nonneg_right (show most + 1 ≤ up p q i by omega) (show 0 ≤ q by omega)
      omega
theorem dn_pos (hq : 0 < q) (hpq : q ≤ p) (hi : 1 ≤ i) : 1 ≤ dn p q i := by
  by_cases z : 1 ≤ dn p q i
  · exact z
  · have h := (dn_le (p := p) (i := i) (most := 0) hq).mp (by omega)
    have := Int.mul_le_mul_of_nonneg_right hi (show 0 ≤ p by omega)
    omega
theorem row_eq (hq : 0 < q) (hpq : q ≤ p) : row p q most = down p q most := by
  refine sorted_ext ((rg_sorted _ _).filter _) (down_sorted hq hpq) fun x => ?_
  unfold row down
  rw [List.mem_filter, mem_rgI, List.mem_map]
  constructor
  · rintro ⟨⟨h1, h2⟩, h3⟩
    obtain ⟨i, hi, rfl⟩ := (isStep_iff (by omega) hq h1).mp h3
    refine ⟨i, ?_, rfl⟩
    rw [List.mem_filter, mem_rgI]
    refine ⟨⟨hi, ?_⟩, decide_eq_true (by omega)⟩
    have h4 := (dn_le (p := p) (i := i) (most := most) hq).mp (by omega)
    have h5 := Int.lt_ediv_add_one_mul_self (most * q) (show 0 < p by omega)
    generalize most * q / p = D at h5 ⊢
    by_cases z : i < D + q + 2
    · exact z
    · have := Int.mul_le_mul_of_nonneg_right (show D + 2 ≤ i by omega) (show 0 ≤ p by omega)
      rw [Int.add_mul] at this h4 h5
      omega
  · rintro ⟨i, h1, rfl⟩
    rw [List.mem_filter, mem_rgI] at h1
    have h2 := of_decide_eq_true h1.2
    have h3 := dn_pos hq hpq h1.1.1
    exact ⟨⟨h3, by omega⟩, (isStep_iff (by omega) hq h3).mpr ⟨i, h1.1.1, rfl⟩⟩
theorem rowB_eq (hq : 0 < q) (hpq : q ≤ p) : rowB p q most = below p q most := by
  refine sorted_ext ((rg_sorted _ _).filter _) (below_sorted hq hpq) fun x => ?_
  unfold rowB below
  rw [List.mem_filter, mem_rgI, List.mem_map]
  constructor
  · rintro ⟨⟨h1, h2⟩, h3⟩
    obtain ⟨i, hi, rfl⟩ := (isBelow_iff (by omega) hq h1).mp h3
    refine ⟨i, ?_, rfl⟩
    rw [List.mem_filter, mem_rgI]
    refine ⟨⟨hi, ?_⟩, decide_eq_true ⟨h1, by omega⟩⟩
    have h4 := (up_le (p := p) (i := i) (most := most) hq).mp (by omega)
    have h5 := Int.lt_ediv_add_one_mul_self ((most + 1) * q) (show 0 < p by omega)
    generalize (most + 1) * q / p = D at h5 ⊢
    by_cases z : i < D + q + 2
    · exact z
    · have := Int.mul_le_mul_of_nonneg_right (show D + 2 ≤ i by omega) (show 0 ≤ p by omega)
      rw [Int.add_mul] at this
      rw [Int.add_mul D] at h5
      omega
  · rintro ⟨i, h1, rfl⟩
    rw [List.mem_filter, mem_rgI] at h1
    have h2 := of_decide_eq_true h1.2
    exact ⟨⟨h2.1, by omega⟩, (isBelow_iff (by omega) hq h2.1).mpr ⟨i, h1.1.1, rfl⟩⟩
theorem rg_filter {lo hi a b : Int} (h1 : lo ≤ a) (h2 : b ≤ hi) {f : Int → Bool} (hf : ∀ i, lo ≤ i → i < hi → (f i = true ↔ a ≤ i ∧ i < b)) : (rgI lo hi).filter f = rgI a b := by
  refine sorted_ext ((rg_sorted _ _).filter _) (rg_sorted _ _) fun x => ?_
  rw [List.mem_filter, mem_rgI, mem_rgI]
  constructor
  · rintro ⟨⟨h3, h4⟩, h5⟩; exact (hf x h3 h4).mp h5
  · rintro ⟨h3, h4⟩; exact ⟨⟨by omega, by omega⟩, (hf x (by omega) (by omega)).mpr ⟨h3, h4⟩⟩
theorem down_len (hq : 0 < q) (hpq : q ≤ p) (hm : 0 ≤ most) : ((down p q most).length : Int) = ((most + 1) * q + p - 1) / p - 1 := by
  obtain ⟨c, hc⟩ : ∃ c, c = ((most + 1) * q + p - 1) / p := ⟨_, rfl⟩
  have k := (cl_iff (show 0 < p by omega)).mp hc.symm
  have hmq : 0 < (most + 1) * q := Int.mul_pos (by omega) hq
  have c1 : 1 ≤ c := by
    by_cases z : 1 ≤ c
    · exact z
    · have : c * p ≤ 0 := Int.mul_nonpos_of_nonpos_of_nonneg (by omega) (by omega)
      omega
  have e : (rgI 1 (most * q / p + q + 2)).filter (fun i => decide (dn p q i ≤ most)) = rgI 1 c := by
    refine rg_filter (by omega) ?_ fun i h1 h2 => ?_
    · have h5 := Int.lt_ediv_add_one_mul_self (most * q) (show 0 < p by omega)
      generalize most * q / p = D at h5 ⊢
      by_cases z : c ≤ D + q + 2
      · exact z
      · have := Int.mul_le_mul_of_nonneg_right (show D + 2 ≤ c - 1 by omega) (show 0 ≤ p by omega)
        rw [Int.add_mul] at this k h5
        have k1 := k.1
        omega
    · rw [decide_eq_true_iff, dn_le hq]
      constructor
      · intro h
        refine ⟨h1, ?_⟩
        by_cases z : i < c
        · exact z
        · have := Int.mul_le_mul_of_nonneg_right (show c ≤ i by omega) (show 0 ≤ p by omega)
          omega
      · rintro ⟨_, h3⟩
        have := Int.mul_le_mul_of_nonneg_right (show i ≤ c - 1 by omega) (show 0 ≤ p by omega)
        omega
  rw [← hc]
  unfold down
  rw [e, List.length_map, rgI_len]
  omega
theorem below_len (hq : 0 < q) (hpq : q ≤ p) (hm : 0 ≤ most) : ((below p q most).length : Int) = (most + 1) * q / p - if p = q then 1 else 0 := by
  have h4 := Int.ediv_mul_le ((most + 1) * q) (b := p) (by omega)
  have h5 := Int.lt_ediv_add_one_mul_self ((most + 1) * q) (show 0 < p by omega)
  have hz : p = q → (most + 1) * q / p = most + 1 := fun e => by rw [e, Int.mul_ediv_cancel _ (by omega)]
  have h0 : 0 ≤ (most + 1) * q / p := Int.ediv_nonneg (Int.mul_nonneg (by omega) (by omega)) (by omega)
  unfold below
  generalize (most + 1) * q / p = M at h4 h5 hz h0 ⊢
  have up1 : ∀ i, 1 ≤ i → (1 ≤ up p q i ↔ (if p = q then 2 else 1) ≤ i) := fun i hi => by
    have a : (1 ≤ up p q i) ↔ ¬ (i * p ≤ (0 + 1) * q) := by rw [← up_le (most := 0) hq]; omega
    rw [a]
    split
    · rename_i e
      subst e
      constructor
      · intro h
        by_cases z : 2 ≤ i
        · exact z
        · have e1 : i = 1 := by omega
          subst e1; omega
      · intro h
        have := Int.mul_le_mul_of_nonneg_right h (show 0 ≤ p by omega)
        omega
    · constructor
      · intro _; exact hi
      · intro _
        have := Int.mul_le_mul_of_nonneg_right hi (show 0 ≤ p by omega)
        omega
  have e : (rgI 1 (M + q + 2)).filter (fun i => decide (1 ≤ up p q i ∧ up p q i ≤ most)) = rgI (if p = q then 2 else 1) (M + 1) := by
    refine rg_filter (by split <;> omega) (by omega) fun i h1 h2 => ?_
    rw [decide_eq_true_iff, up1 i h1, up_le hq]
    constructor
    · rintro ⟨h3, h6⟩
      refine ⟨h3, ?_⟩
      by_cases z : i < M + 1
      · exact z
      · have := Int.mul_le_mul_of_nonneg_right (show M + 1 ≤ i by omega) (show 0 ≤ p by omega)
        omega
    · rintro ⟨h3, h6⟩
      refine ⟨h3, ?_⟩
      have := Int.mul_le_mul_of_nonneg_right (show i ≤ M by omega) (show 0 ≤ p by omega)
      omega
  rw [e, List.length_map, rgI_len]
  split
  · rename_i z; have := hz z; omega
  · omega
theorem filter_mem {α : Type} {f g : α → Bool} {l : List α} (h : ∀ x, x ∈ l → f x = g x) : l.filter f = l.filter g := List.filter_congr h
theorem row_scale {k : Int} (hp : 0 < p) (hq : 0 < q) (hk : 0 < k) : row (p * k) (q * k) most = row p q most := by
  refine filter_mem fun x hx => ?_
  rw [mem_rgI] at hx
  have a := isStep_iff (m := x) hp hq hx.1
  have b := isStep_iff (p := p * k) (q := q * k) (m := x) (Int.mul_pos hp hk) (Int.mul_pos hq hk) hx.1
  have e : ∀ i, dn (p * k) (q * k) i = dn p q i := fun i => by
    unfold dn
    rw [← Int.mul_assoc, Int.mul_ediv_mul_of_pos_left _ _ hk]
  rw [Bool.eq_iff_iff, a, b]
  simp only [e]
theorem rowB_scale {k : Int} (hp : 0 < p) (hq : 0 < q) (hk : 0 < k) : rowB (p * k) (q * k) most = rowB p q most := by
  refine filter_mem fun x hx => ?_
  unfold isBelow
  rw [← Int.mul_assoc, ← Int.mul_assoc (x + 1), Int.mul_ediv_mul_of_pos_left _ _ hk, ← Int.mul_assoc]
  rw [decide_eq_decide]
  constructor
  · intro h; exact Int.lt_of_mul_lt_mul_right h (by omega)
  · intro h; exact Int.mul_lt_mul_of_pos_right h hk
end
end K69

set_option Elab.async false
set_option linter.all false
set_option maxRecDepth 100000
namespace K69
open PySem Vi L2
def tab_is_step : Tab := ⟨["p", "q", "m", "i"], [], [], [], []⟩
def b_is_step_0 : Sts := (.cons (.ret (.cmp .Eq (.bin .FloorDiv (.bin .Mult (.var 3) (.var 0)) (.var 1)) (.var 2))) .nil)
def b_is_step_1 : Sts := (.cons (.asg 3 (.bin .FloorDiv (.bin .Sub (.bin .Add (.bin .Mult (.var 2) (.var 1)) (.var 0)) (.int 1)) (.var 0))) b_is_step_0)
def bod_is_step : Sts := b_is_step_1
def rho_is_step : Rho := fun _ _ => .bad
def den_is_step : Den := runB 3 4 [] (exs rho_is_step [] bod_is_step)
def tab_is_step_below : Tab := ⟨["p", "q", "m", "i"], [], [], [], []⟩
def b_is_step_below_0 : Sts := (.cons (.ret (.cmp .Gt (.bin .Mult (.var 3) (.var 0)) (.bin .Mult (.var 2) (.var 1)))) .nil)
def b_is_step_below_1 : Sts := (.cons (.asg 3 (.bin .FloorDiv (.bin .Mult (.bin .Add (.var 2) (.int 1)) (.var 1)) (.var 0))) b_is_step_below_0)
def bod_is_step_below : Sts := b_is_step_below_1
def rho_is_step_below : Rho := fun _ _ => .bad
def den_is_step_below : Den := runB 3 4 [] (exs rho_is_step_below [] bod_is_step_below)
def tab_steps_row : Tab := ⟨["p", "q", "most", "m"], [("is_step", 3)], ["range"], [], []⟩
def b_steps_row_0 : Sts := (.cons (.ret (.lc (.var 3) (.nm 3) (.r2 (.int 1) (.bin .Add (.var 2) (.int 1))) (.yes (.call 0 (.e (.var 0) (.e (.var 1) (.e (.var 3) .nil))))) [3])) .nil)
def bod_steps_row : Sts := b_steps_row_0
def rho_steps_row : Rho := fun f => match f with
  | 0 => den_is_step
  | _ => fun _ => .bad
def den_steps_row : Den := runB 3 4 [] (exs rho_steps_row [] bod_steps_row)
def tab_steps_row_below : Tab := ⟨["p", "q", "most", "m"], [("is_step_below", 3)], ["range"], [], []⟩
def b_steps_row_below_0 : Sts := (.cons (.ret (.lc (.var 3) (.nm 3) (.r2 (.int 1) (.bin .Add (.var 2) (.int 1))) (.yes (.call 0 (.e (.var 0) (.e (.var 1) (.e (.var 3) .nil))))) [3])) .nil)
def bod_steps_row_below : Sts := b_steps_row_below_0
def rho_steps_row_below : Rho := fun f => match f with
  | 0 => den_is_step_below
  | _ => fun _ => .bad
def den_steps_row_below : Den := runB 3 4 [] (exs rho_steps_row_below [] bod_steps_row_below)
def tab__law_feed : Tab := ⟨["script"], [], ["list"], [], []⟩
def b__law_feed_0 : Sts := (.cons (.ret (.lst (.cons (.lsc 0) (.cons (.int 0) (.cons (.int 0) (.cons (.int 1) .nil)))))) .nil)
def bod__law_feed : Sts := b__law_feed_0
def rho__law_feed : Rho := fun _ _ => .bad
def den__law_feed : Den := runB 1 1 [0] (exs rho__law_feed [0] bod__law_feed)
def tab__law_draw : Tab := ⟨["feed", "many", "mixed", "cell", "told"], [], ["int", "len", "abs"], [], []⟩
def b__law_draw_0 : Sts := (.cons (.ret (.bin .Mod (.bin .FloorDiv (.var 2) (.int 11)) (.var 1))) .nil)
def b__law_draw_1 : Sts := (.cons (.asg 2 (.bw [0] [1, 2, 3, 4] (.bin .Mod (.blt .int (.cons (.bin .Add (.bin .Mult (.ix (.var 0) (.int 3)) (.ix (.var 0) (.int 3))) (.ix (.var 0) (.int 3))) .nil)) (.int 2147483629)))) b__law_draw_0)
def b__law_draw_2 : Sts := (.cons (.set 0 (.int 3) (.bw [0] [1, 2, 3, 4] (.bin .Mod (.blt .int (.cons (.bin .Add (.bin .Mult (.ix (.var 0) (.int 3)) (.int 16807)) (.int 12345)) .nil)) (.int 2147483647)))) b__law_draw_1)
def b__law_draw_3 : Sts := (.cons (.iff (.bw [0] [1, 2, 3, 4] (.cmp .Gt (.ix (.var 0) (.int 2)) (.int 0))) (.cons (.asg 4 (.bw [0, 1] [2, 3, 4] (.bin .Mod (.blt .int (.cons (.ix (.var 0) (.int 2)) .nil)) (.var 1)))) (.cons (.set 0 (.int 2) (.bw [0, 1] [2, 3, 4] (.bin .FloorDiv (.ix (.var 0) (.int 2)) (.var 1)))) (.cons (.ret (.var 4)) .nil))) .nil) b__law_draw_2)
def b__law_draw_4 : Sts := (.cons (.iff (.bw [0] [1, 2, 3, 4] (.and (.cmp .Eq (.ix (.var 0) (.int 2)) (.int 0)) (.one (.cmp .Lt (.ix (.var 0) (.int 1)) (.blt .len (.cons (.ix (.var 0) (.int 0)) .nil)))))) (.cons (.asg 3 (.bw [0] [1, 2, 3, 4] (.blt .abs (.cons (.blt .int (.cons (.ix (.ix (.var 0) (.int 0)) (.ix (.var 0) (.int 1))) .nil)) .nil)))) (.cons (.augS 0 .Add (.int 1) (.int 1)) (.cons (.iff (.cmp .GtE (.var 3) (.bin .Pow (.int 10) (.int 18))) (.cons (.set 0 (.int 2) (.var 3)) .nil) (.cons (.set 0 (.int 3) (.bw [0, 3] [1, 2, 4] (.bin .Mod (.blt .int (.cons (.bin .Add (.bin .Add (.bin .Mult (.ix (.var 0) (.int 3)) (.int 48271)) (.bin .Mult (.var 3) (.int 69621))) (.ix (.var 0) (.int 1))) .nil)) (.int 2147483647)))) .nil)) .nil))) .nil) b__law_draw_3)
def bod__law_draw : Sts := b__law_draw_4
def rho__law_draw : Rho := fun _ _ => .bad
def den__law_draw : Den := runB 2 5 [0] (exs rho__law_draw [0] bod__law_draw)
def tab__law_is_whole : Tab := ⟨["x"], [], ["isinstance", "bool", "int"], [], []⟩
def b__law_is_whole_0 : Sts := (.cons (.ret (.and (.isi (.var 0) .int) (.one (.not (.isi (.var 0) .bool))))) .nil)
def bod__law_is_whole : Sts := b__law_is_whole_0
def rho__law_is_whole : Rho := fun _ _ => .bad
def den__law_is_whole : Den := runB 1 1 [] (exs rho__law_is_whole [] bod__law_is_whole)
def tab__law_down : Tab := ⟨["p", "q", "most", "found", "i"], [], ["range"], [], []⟩
def b__law_down_0 : Sts := (.cons (.ret (.mv 3)) .nil)
def b__law_down_1 : Sts := (.cons (.iff (.cmp .LtE (.bin .FloorDiv (.bin .Mult (.var 4) (.var 0)) (.var 1)) (.var 2)) (.cons (.expr (.app 3 (.bin .FloorDiv (.bin .Mult (.var 4) (.var 0)) (.var 1)))) .nil) .nil) .nil)
def b__law_down_2 : Sts := (.cons (.forr (.nm 4) (.r2 (.int 1) (.bin .Add (.bin .Add (.bin .FloorDiv (.bin .Mult (.var 2) (.var 1)) (.var 0)) (.var 1)) (.int 2))) b__law_down_1) b__law_down_0)
def b__law_down_3 : Sts := (.cons (.asg 3 (.lst .nil)) b__law_down_2)
def bod__law_down : Sts := b__law_down_3
def rho__law_down : Rho := fun _ _ => .bad
def den__law_down : Den := runB 3 5 [] (exs rho__law_down [] bod__law_down)
def tab__law_below : Tab := ⟨["p", "q", "most", "found", "i", "number"], [], ["range"], [], []⟩
def b__law_below_0 : Sts := (.cons (.ret (.mv 3)) .nil)
def b__law_below_1 : Sts := (.cons (.iff (.chain .LtE .LtE (.int 1) (.var 5) (.var 2)) (.cons (.expr (.app 3 (.var 5))) .nil) .nil) .nil)
def b__law_below_2 : Sts := (.cons (.asg 5 (.bin .Sub (.bin .FloorDiv (.bin .Sub (.bin .Add (.bin .Mult (.var 4) (.var 0)) (.var 1)) (.int 1)) (.var 1)) (.int 1))) b__law_below_1)
def b__law_below_3 : Sts := (.cons (.forr (.nm 4) (.r2 (.int 1) (.bin .Add (.bin .Add (.bin .FloorDiv (.bin .Mult (.bin .Add (.var 2) (.int 1)) (.var 1)) (.var 0)) (.var 1)) (.int 2))) b__law_below_2) b__law_below_0)
def b__law_below_4 : Sts := (.cons (.asg 3 (.lst .nil)) b__law_below_3)
def bod__law_below : Sts := b__law_below_4
def rho__law_below : Rho := fun _ _ => .bad
def den__law_below : Den := runB 3 6 [] (exs rho__law_below [] bod__law_below)
def tab__law_told : Tab := ⟨["told", "due", "x"], [("_law_is_whole", 1)], ["len", "isinstance", "list"], [], []⟩
def b__law_told_0 : Sts := (.cons (.ret (.and (.isi (.var 0) .list) (.and (.cmp .Eq (.blt .len (.cons (.lc (.var 2) (.nm 2) (.e (.var 0)) (.yes (.call 0 (.e (.var 2) .nil))) [2]) .nil)) (.blt .len (.cons (.var 1) .nil))) (.one (.cmp .Eq (.var 0) (.var 1)))))) .nil)
def bod__law_told : Sts := b__law_told_0
def rho__law_told : Rho := fun f => match f with
  | 0 => den__law_is_whole
  | _ => fun _ => .bad
def den__law_told : Den := runB 2 3 [] (exs rho__law_told [] bod__law_told)
def tab__law_right : Tab := ⟨["p", "q", "most", "down", "below", "one", "two", "k"], [("_law_down", 3), ("_law_below", 3), ("steps_row", 3), ("steps_row_below", 3), ("_law_told", 2)], ["len", "int", "range"], [], []⟩
def b__law_right_0 : Sts := (.cons (.ret (.and (.cmp .Eq (.call 2 (.e (.var 0) (.e (.var 1) (.e (.var 2) .nil)))) (.var 3)) (.one (.cmp .Eq (.call 3 (.e (.var 0) (.e (.var 1) (.e (.var 2) .nil)))) (.var 4))))) .nil)
def b__law_right_1 : Sts := (.cons (.expr (.app 6 (.int 0))) b__law_right_0)
def b__law_right_2 : Sts := (.cons (.expr (.app 5 (.int 0))) b__law_right_1)
def b__law_right_3 : Sts := (.cons (.iff (.or (.cmp .NotEq (.blt .len (.cons (.var 3) .nil)) (.bin .Sub (.bin .FloorDiv (.bin .Sub (.bin .Add (.bin .Mult (.bin .Add (.var 2) (.int 1)) (.var 1)) (.var 0)) (.int 1)) (.var 0)) (.int 1))) (.one (.cmp .NotEq (.blt .len (.cons (.var 4) .nil)) (.bin .Sub (.bin .FloorDiv (.bin .Mult (.bin .Add (.var 2) (.int 1)) (.var 1)) (.var 0)) (.blt .int (.cons (.cmp .Eq (.var 0) (.var 1)) .nil)))))) (.cons (.ret (.bl false)) .nil) .nil) b__law_right_2)
def b__law_right_4 : Sts := (.cons (.iff (.cmp .Gt (.blt .len (.cons (.lc (.var 7) (.nm 7) (.r2 (.int 1) (.blt .len (.cons (.var 3) .nil))) (.yes (.cmp .GtE (.ix (.var 3) (.bin .Sub (.var 7) (.int 1))) (.ix (.var 3) (.var 7)))) [7]) .nil)) (.int 0)) (.cons (.ret (.bl false)) .nil) .nil) b__law_right_3)
def b__law_right_5 : Sts := (.cons (.iff (.bw [3, 4, 5, 6] [0, 1, 2, 7] (.or (.not (.call 4 (.e (.var 5) (.e (.var 3) .nil)))) (.one (.not (.call 4 (.e (.var 6) (.e (.var 4) .nil))))))) (.cons (.ret (.bl false)) .nil) .nil) b__law_right_4)
def b__law_right_6 : Sts := (.cons (.asg 6 (.call 3 (.e (.var 0) (.e (.var 1) (.e (.var 2) .nil))))) b__law_right_5)
def b__law_right_7 : Sts := (.cons (.asg 5 (.call 2 (.e (.var 0) (.e (.var 1) (.e (.var 2) .nil))))) b__law_right_6)
def b__law_right_8 : Sts := (.cons (.asg 4 (.call 1 (.e (.var 0) (.e (.var 1) (.e (.var 2) .nil))))) b__law_right_7)
def b__law_right_9 : Sts := (.cons (.asg 3 (.call 0 (.e (.var 0) (.e (.var 1) (.e (.var 2) .nil))))) b__law_right_8)
def bod__law_right : Sts := b__law_right_9
def rho__law_right : Rho := fun f => match f with
  | 0 => den__law_down
  | 1 => den__law_below
  | 2 => den_steps_row
  | 3 => den_steps_row_below
  | 4 => den__law_told
  | _ => fun _ => .bad
def den__law_right : Den := runB 3 8 [] (exs rho__law_right [] bod__law_right)
def tab_law : Tab := ⟨["script", "feed", "turn", "q", "p", "kind", "most", "many"], [("_law_feed", 1), ("_law_draw", 2), ("_law_right", 3), ("steps_row", 3), ("steps_row_below", 3)], ["range"], [], []⟩
def b_law_0 : Sts := (.cons (.ret (.and (.cmp .Eq (.call 3 (.e (.int 3) (.e (.int 2) (.e (.int 7) .nil)))) (.lst (.cons (.int 1) (.cons (.int 3) (.cons (.int 4) (.cons (.int 6) (.cons (.int 7) .nil))))))) (.and (.cmp .Eq (.call 4 (.e (.int 3) (.e (.int 1) (.e (.int 8) .nil)))) (.lst (.cons (.int 2) (.cons (.int 5) (.cons (.int 8) .nil))))) (.one (.cmp .Eq (.call 4 (.e (.int 3) (.e (.int 2) (.e (.int 6) .nil)))) (.lst (.cons (.int 1) (.cons (.int 2) (.cons (.int 4) (.cons (.int 5) .nil)))))))))) .nil)
def b_law_1 : Sts := (.cons (.iff (.or (.not (.call 2 (.e (.int 1) (.e (.int 1) (.e (.int 1000) .nil))))) (.or (.cmp .NotEq (.call 3 (.e (.int 1) (.e (.int 1) (.e (.int 3) .nil)))) (.lst (.cons (.int 1) (.cons (.int 2) (.cons (.int 3) .nil))))) (.one (.cmp .NotEq (.call 4 (.e (.int 1) (.e (.int 1) (.e (.int 3) .nil)))) (.lst (.cons (.int 1) (.cons (.int 2) (.cons (.int 3) .nil)))))))) (.cons (.ret (.bl false)) .nil) .nil) b_law_0)
def b_law_2 : Sts := (.cons (.iff (.or (.cmp .NotEq (.call 3 (.e (.bin .Mult (.var 4) (.var 7)) (.e (.bin .Mult (.var 3) (.var 7)) (.e (.var 6) .nil)))) (.call 3 (.e (.var 4) (.e (.var 3) (.e (.var 6) .nil))))) (.one (.cmp .NotEq (.call 4 (.e (.bin .Mult (.var 4) (.var 7)) (.e (.bin .Mult (.var 3) (.var 7)) (.e (.var 6) .nil)))) (.call 4 (.e (.var 4) (.e (.var 3) (.e (.var 6) .nil))))))) (.cons (.ret (.bl false)) .nil) .nil) .nil)
def b_law_3 : Sts := (.cons (.asg 7 (.bin .FloorDiv (.int 40) (.var 4))) b_law_2)
def b_law_4 : Sts := (.cons (.iff (.or (.not (.call 2 (.e (.var 4) (.e (.var 3) (.e (.var 6) .nil))))) (.or (.not (.call 2 (.e (.var 4) (.e (.var 3) (.e (.int 0) .nil))))) (.one (.not (.call 2 (.e (.int 40) (.e (.var 3) (.e (.var 6) .nil)))))))) (.cons (.ret (.bl false)) .nil) .nil) b_law_3)
def b_law_5 : Sts := (.cons (.asg 6 (.call 1 (.o 1 (.e (.ix (.lst (.cons (.int 61) (.cons (.int 61) (.cons (.int 61) (.cons (.int 1001) .nil))))) (.call 1 (.o 1 (.e (.int 4) .nil)))) .nil)))) b_law_4)
def b_law_6 : Sts := (.cons (.iff (.cmp .Eq (.var 5) (.int 0)) (.cons (.asg 4 (.var 3)) .nil) (.cons (.iff (.cmp .Eq (.var 5) (.int 1)) (.cons (.asg 4 (.bin .Mult (.var 3) (.bin .FloorDiv (.int 40) (.var 3)))) .nil) .nil) .nil)) b_law_5)
def b_law_7 : Sts := (.cons (.asg 5 (.call 1 (.o 1 (.e (.int 5) .nil)))) b_law_6)
def b_law_8 : Sts := (.cons (.asg 4 (.bin .Add (.var 3) (.call 1 (.o 1 (.e (.bin .Sub (.int 41) (.var 3)) .nil))))) b_law_7)
def b_law_9 : Sts := (.cons (.asg 3 (.bin .Add (.int 1) (.call 1 (.o 1 (.e (.int 40) .nil))))) b_law_8)
def b_law_10 : Sts := (.cons (.forr (.nm 2) (.r1 (.int 3)) b_law_9) b_law_1)
def b_law_11 : Sts := (.cons (.asg 1 (.call 0 (.o 0 .nil))) b_law_10)
def bod_law : Sts := b_law_11
def rho_law : Rho := fun f => match f with
  | 0 => den__law_feed
  | 1 => den__law_draw
  | 2 => den__law_right
  | 3 => den_steps_row
  | 4 => den_steps_row_below
  | _ => fun _ => .bad
def den_law : Den := runB 1 8 [0] (exs rho_law [0] bod_law)
end K69

set_option Elab.async false
set_option linter.all false
set_option maxRecDepth 100000
set_option maxHeartbeats 4000000
namespace K69
open PySem Vi L2
section
variable {p q m most : Int}
abbrev I3 (p q m : Int) : List OV := [.fz (.int p), .fz (.int q), .fz (.int m)]
abbrev N3 : Vi.Env := [none, none, none]
theorem ok_is_step (hp : 0 < p) (hp2 : p < 2 ^ 40) (hq : 0 < q) (hq2 : q < 2 ^ 40) : den_is_step (I3 p q m) = .ok (.fz (.bool (isStep p q m))) N3 := by
  have a1 : ∀ a, mulD (.int a) (.int q) = some (.fz (.int (a * q))) := fun a => mul_r (by omega)
  have a2 : ∀ a, mulD (.int a) (.int p) = some (.fz (.int (a * p))) := fun a => mul_r (by omega)
  have a3 : ∀ a, fdivD (.int a) (.int p) = some (.fz (.int (a / p))) := fun a => div_e hp (by omega)
  have a4 : ∀ a, fdivD (.int a) (.int q) = some (.fz (.int (a / q))) := fun a => div_e hq (by omega)
  simp -implicitDefEqProofs [den_is_step, bod_is_step, b_is_step_0, b_is_step_1, Vi.bind_ok, Vi.bind_bad, Vi.bind_ex, Vi.so_ok, Vi.sb_nx, Vi.sb_ret, Vi.sb_bad, Vi.d_fz, Vi.d_olI, Vi.d_ol, Vi.o_some, Vi.tst_b, Vi.tst_i, Vi.tst_l, Vi.tst_s, Vi.tst_n, Vi.oB_some, Vi.oP_some, Vi.oL_some, Vi.rdV_fz, Vi.rdV_ol, Vi.rdV2_some, Vi.mvV_ol, Vi.mvV_fz, Vi.rdVar_c, Vi.ev_var, Vi.ev_mv, Vi.ev_int, Vi.ev_bl, Vi.ev_non, Vi.ev_str, Vi.ev_gi, Vi.ev_gs, Vi.ev_bin, Vi.ev_neg, Vi.ev_cmp, Vi.evT_cmp, Vi.ev_chain, Vi.ev_one, Vi.andK_b, Vi.orK_b, Vi.notK_b, Vi.ev_and, Vi.ev_or, Vi.ev_not, Vi.isB_b, Vi.ev_ite, Vi.ev_tup, Vi.ev_lst, Vi.ev_ix, Vi.ev_slc, Vi.evP_no, Vi.evP_yes, Vi.ev_call, Vi.calK_some, Vi.calR_ok, Vi.evA_nil, Vi.evA_e, Vi.evA_o, Vi.args_nil, Vi.args_e, Vi.args_o, Vi.argK_s, Vi.asm_nil, Vi.asm_e, Vi.asm_o, Vi.asmK_s, Vi.lent_ol, Vi.lent_sc, Vi.lent_fz, Vi.put_nil, Vi.put_e, Vi.put_o, Vi.ev_blt, Vi.ev_isi, Vi.ev_lsc, Vi.lscK_s, Vi.cmpK_ok, Vi.ev_lc, Vi.evC_no, Vi.evC_yes, Vi.evI_e, Vi.evI_r1, Vi.evI_r2, Vi.evs_nil, Vi.evs_cons, Vi.evO_nil, Vi.evO_cons, Vi.olO_s, Vi.olOf_c, Vi.appK_s, Vi.appK2_s, Vi.ev_app, Vi.bwK_ok, Vi.ev_bw, Vi.bwK'_ok, Vi.evT_bw, Vi.evT_chain, Vi.evT_one, Vi.evT_and, Vi.evT_or, Vi.evT_not, Vi.evT_var, Vi.evT_call, Vi.evT_isi, Vi.evT_blt, Vi.evT_ix, Vi.evT_bin, Vi.evT_bl, Vi.ex_pass, Vi.ex_asg, Vi.ex_expr, Vi.ex_ret, Vi.ex_retN, Vi.ex_if, Vi.ex_for, Vi.setK_s, Vi.setK2_s, Vi.setK3_s, Vi.ex_set, Vi.ex_aug, Vi.ex_augS, Vi.augM, Vi.augSM, Vi.exs_nil, Vi.exs_cons, Vi.run_b, Vi.runK_ret, Vi.runK_nx, Vi.frzE_nil, Vi.frz_cons, Vi.frzK_ol, Vi.frzK2_s, Vi.frzK_fz, Vi.frzK_no, Vi.frzK_olI, Vi.rdV_olI, Vi.mvV_olI, Vi.olO_olI, Vi.lent_olI, Vi.closed_olI, Vi.dOf_fz, Vi.dOf_olI, Vi.dOf_olI', Vi.dsOf_fz, Vi.dsOf_ints, Vi.dsOf_nil, Vi.dsOf_cons, Option.map_some, Vi.binD, Vi.add_int, Vi.sub_int, Vi.cmpD, Vi.lt_int, Vi.le_int, Vi.gt_int, Vi.ge_int, Vi.neg_int, Vi.bf_len_l, Vi.bf_len_t, Vi.bf_len_s, Vi.bf_abs, Vi.bf_int, Vi.bf_intb, Vi.bf_max2, Vi.bf_min2, Vi.bf_list_l, Vi.bf_list_t, Vi.bf_tup_l, Vi.bf_sum, Vi.ix_l, Vi.ix_t, Vi.ix_s, Vi.isiD, Vi.chain2, Vi.iop_add, Vi.iop_sub, Vi.it_l, Vi.it_t, Vi.it_s, Vi.lentOk, Vi.outs_nil, Vi.outs_fz, Vi.outs_c, List.tail_cons, Vi.killE, Vi.noOwn, Vi.closed, Vi.closeds, Vi.closedD, Vi.closeds_ints, Vi.wipeE, Vi.resE, Vi.bd_nm, Vi.bd_tp, Vi.bdN, Vi.bdT, Vi.bdsN, Vi.bdNil, Vi.bdCons, Vi.Tg.js, Vi.partM, Vi.eq_int, Vi.eq_str, Vi.eq_bool, Vi.eq_ints, a1, a2, a3, a4, isStep]
theorem ok_is_step_below (hp : 0 < p) (hp2 : p < 2 ^ 40) (hq : 0 < q) (hq2 : q < 2 ^ 40) : den_is_step_below (I3 p q m) = .ok (.fz (.bool (isBelow p q m))) N3 := by
  have a1 : ∀ a, mulD (.int a) (.int q) = some (.fz (.int (a * q))) := fun a => mul_r (by omega)
  have a2 : ∀ a, mulD (.int a) (.int p) = some (.fz (.int (a * p))) := fun a => mul_r (by omega)
  have a3 : ∀ a, fdivD (.int a) (.int p) = some (.fz (.int (a / p))) := fun a => div_e hp (by omega)
  simp -implicitDefEqProofs [den_is_step_below, bod_is_step_below, b_is_step_below_0, b_is_step_below_1, Vi.bind_ok, Vi.bind_bad, Vi.bind_ex, Vi.so_ok, Vi.sb_nx, Vi.sb_ret, Vi.sb_bad, Vi.d_fz, Vi.d_olI, Vi.d_ol, Vi.o_some, Vi.tst_b, Vi.tst_i, Vi.tst_l, Vi.tst_s, Vi.tst_n, Vi.oB_some, Vi.oP_some, Vi.oL_some, Vi.rdV_fz, Vi.rdV_ol, Vi.rdV2_some, Vi.mvV_ol, Vi.mvV_fz, Vi.rdVar_c, Vi.ev_var, Vi.ev_mv, Vi.ev_int, Vi.ev_bl, Vi.ev_non, Vi.ev_str, Vi.ev_gi, Vi.ev_gs, Vi.ev_bin, Vi.ev_neg, Vi.ev_cmp, Vi.evT_cmp, Vi.ev_chain, Vi.ev_one, Vi.andK_b, Vi.orK_b, Vi.notK_b, Vi.ev_and, Vi.ev_or, Vi.ev_not, Vi.isB_b, Vi.ev_ite, Vi.ev_tup, Vi.ev_lst, Vi.ev_ix, Vi.ev_slc, Vi.evP_no, Vi.evP_yes, Vi.ev_call, Vi.calK_some, Vi.calR_ok, Vi.evA_nil, Vi.evA_e, Vi.evA_o, Vi.args_nil, Vi.args_e, Vi.args_o, Vi.argK_s, Vi.asm_nil, Vi.asm_e, Vi.asm_o, Vi.asmK_s, Vi.lent_ol, Vi.lent_sc, Vi.lent_fz, Vi.put_nil, Vi.put_e, Vi.put_o, Vi.ev_blt, Vi.ev_isi, Vi.ev_lsc, Vi.lscK_s, Vi.cmpK_ok, Vi.ev_lc, Vi.evC_no, Vi.evC_yes, Vi.evI_e, Vi.evI_r1, Vi.evI_r2, Vi.evs_nil, Vi.evs_cons, Vi.evO_nil, Vi.evO_cons, Vi.olO_s, Vi.olOf_c, Vi.appK_s, Vi.appK2_s, Vi.ev_app, Vi.bwK_ok, Vi.ev_bw, Vi.bwK'_ok, Vi.evT_bw, Vi.evT_chain, Vi.evT_one, Vi.evT_and, Vi.evT_or, Vi.evT_not, Vi.evT_var, Vi.evT_call, Vi.evT_isi, Vi.evT_blt, Vi.evT_ix, Vi.evT_bin, Vi.evT_bl, Vi.ex_pass, Vi.ex_asg, Vi.ex_expr, Vi.ex_ret, Vi.ex_retN, Vi.ex_if, Vi.ex_for, Vi.setK_s, Vi.setK2_s, Vi.setK3_s, Vi.ex_set, Vi.ex_aug, Vi.ex_augS, Vi.augM, Vi.augSM, Vi.exs_nil, Vi.exs_cons, Vi.run_b, Vi.runK_ret, Vi.runK_nx, Vi.frzE_nil, Vi.frz_cons, Vi.frzK_ol, Vi.frzK2_s, Vi.frzK_fz, Vi.frzK_no, Vi.frzK_olI, Vi.rdV_olI, Vi.mvV_olI, Vi.olO_olI, Vi.lent_olI, Vi.closed_olI, Vi.dOf_fz, Vi.dOf_olI, Vi.dOf_olI', Vi.dsOf_fz, Vi.dsOf_ints, Vi.dsOf_nil, Vi.dsOf_cons, Option.map_some, Vi.binD, Vi.add_int, Vi.sub_int, Vi.cmpD, Vi.lt_int, Vi.le_int, Vi.gt_int, Vi.ge_int, Vi.neg_int, Vi.bf_len_l, Vi.bf_len_t, Vi.bf_len_s, Vi.bf_abs, Vi.bf_int, Vi.bf_intb, Vi.bf_max2, Vi.bf_min2, Vi.bf_list_l, Vi.bf_list_t, Vi.bf_tup_l, Vi.bf_sum, Vi.ix_l, Vi.ix_t, Vi.ix_s, Vi.isiD, Vi.chain2, Vi.iop_add, Vi.iop_sub, Vi.it_l, Vi.it_t, Vi.it_s, Vi.lentOk, Vi.outs_nil, Vi.outs_fz, Vi.outs_c, List.tail_cons, Vi.killE, Vi.noOwn, Vi.closed, Vi.closeds, Vi.closedD, Vi.closeds_ints, Vi.wipeE, Vi.resE, Vi.bd_nm, Vi.bd_tp, Vi.bdN, Vi.bdT, Vi.bdsN, Vi.bdNil, Vi.bdCons, Vi.Tg.js, Vi.partM, Vi.eq_int, Vi.eq_str, Vi.eq_bool, Vi.eq_ints, a1, a2, a3, isBelow]
theorem ok_row (hp : 0 < p) (hp2 : p < 2 ^ 40) (hq : 0 < q) (hq2 : q < 2 ^ 40) (hm : 0 ≤ most) (hm2 : most < 2 ^ 20) : den_steps_row (I3 p q most) = .ok (olI (row p q most)) N3 := by
  have r : rngD [.int 1, .int (most + 1)] = some ((rgI 1 (most + 1)).map .int) := by rw [← rngL_eq]; exact rng_2 (by omega) (by omega) (by omega)
  have c : compL (bdG (.nm 3)) (evC rho_steps_row (.yes (.call 0 (.e (.var 0) (.e (.var 1) (.e (.var 3) .nil)))))) (fun env => (ev rho_steps_row (.var 3) env).d) [3] ((rgI 1 (most + 1)).map .int) [some (.fz (.int p)), some (.fz (.int q)), some (.fz (.int most)), none] = .ok ((row p q most).map .int) [some (.fz (.int p)), some (.fz (.int q)), some (.fz (.int most)), none] := by
    refine compL_fm (isStep p q) PyData.int _ fun x _ => ⟨[some (.fz (.int p)), some (.fz (.int q)), some (.fz (.int most)), some (.fz (.int x))], [some (.fz (.int p)), some (.fz (.int q)), some (.fz (.int most)), some (.fz (.int x))], ?_, ?_, ?_⟩
    · simp -implicitDefEqProofs [Vi.bind_ok, Vi.bind_bad, Vi.bind_ex, Vi.so_ok, Vi.sb_nx, Vi.sb_ret, Vi.sb_bad, Vi.d_fz, Vi.d_olI, Vi.d_ol, Vi.o_some, Vi.tst_b, Vi.tst_i, Vi.tst_l, Vi.tst_s, Vi.tst_n, Vi.oB_some, Vi.oP_some, Vi.oL_some, Vi.rdV_fz, Vi.rdV_ol, Vi.rdV2_some, Vi.mvV_ol, Vi.mvV_fz, Vi.rdVar_c, Vi.ev_var, Vi.ev_mv, Vi.ev_int, Vi.ev_bl, Vi.ev_non, Vi.ev_str, Vi.ev_gi, Vi.ev_gs, Vi.ev_bin, Vi.ev_neg, Vi.ev_cmp, Vi.evT_cmp, Vi.ev_chain, Vi.ev_one, Vi.andK_b, Vi.orK_b, Vi.notK_b, Vi.ev_and, Vi.ev_or, Vi.ev_not, Vi.isB_b, Vi.ev_ite, Vi.ev_tup, Vi.ev_lst, Vi.ev_ix, Vi.ev_slc, Vi.evP_no, Vi.evP_yes, Vi.ev_call, Vi.calK_some, Vi.calR_ok, Vi.evA_nil, Vi.evA_e, Vi.evA_o, Vi.args_nil, Vi.args_e, Vi.args_o, Vi.argK_s, Vi.asm_nil, Vi.asm_e, Vi.asm_o, Vi.asmK_s, Vi.lent_ol, Vi.lent_sc, Vi.lent_fz, Vi.put_nil, Vi.put_e, Vi.put_o, Vi.ev_blt, Vi.ev_isi, Vi.ev_lsc, Vi.lscK_s, Vi.cmpK_ok, Vi.ev_lc, Vi.evC_no, Vi.evC_yes, Vi.evI_e, Vi.evI_r1, Vi.evI_r2, Vi.evs_nil, Vi.evs_cons, Vi.evO_nil, Vi.evO_cons, Vi.olO_s, Vi.olOf_c, Vi.appK_s, Vi.appK2_s, Vi.ev_app, Vi.bwK_ok, Vi.ev_bw, Vi.bwK'_ok, Vi.evT_bw, Vi.evT_chain, Vi.evT_one, Vi.evT_and, Vi.evT_or, Vi.evT_not, Vi.evT_var, Vi.evT_call, Vi.evT_isi, Vi.evT_blt, Vi.evT_ix, Vi.evT_bin, Vi.evT_bl, Vi.ex_pass, Vi.ex_asg, Vi.ex_expr, Vi.ex_ret, Vi.ex_retN, Vi.ex_if, Vi.ex_for, Vi.setK_s, Vi.setK2_s, Vi.setK3_s, Vi.ex_set, Vi.ex_aug, Vi.ex_augS, Vi.augM, Vi.augSM, Vi.exs_nil, Vi.exs_cons, Vi.run_b, Vi.runK_ret, Vi.runK_nx, Vi.frzE_nil, Vi.frz_cons, Vi.frzK_ol, Vi.frzK2_s, Vi.frzK_fz, Vi.frzK_no, Vi.frzK_olI, Vi.rdV_olI, Vi.mvV_olI, Vi.olO_olI, Vi.lent_olI, Vi.closed_olI, Vi.dOf_fz, Vi.dOf_olI, Vi.dOf_olI', Vi.dsOf_fz, Vi.dsOf_ints, Vi.dsOf_nil, Vi.dsOf_cons, Option.map_some, Vi.binD, Vi.add_int, Vi.sub_int, Vi.cmpD, Vi.lt_int, Vi.le_int, Vi.gt_int, Vi.ge_int, Vi.neg_int, Vi.bf_len_l, Vi.bf_len_t, Vi.bf_len_s, Vi.bf_abs, Vi.bf_int, Vi.bf_intb, Vi.bf_max2, Vi.bf_min2, Vi.bf_list_l, Vi.bf_list_t, Vi.bf_tup_l, Vi.bf_sum, Vi.ix_l, Vi.ix_t, Vi.ix_s, Vi.isiD, Vi.chain2, Vi.iop_add, Vi.iop_sub, Vi.it_l, Vi.it_t, Vi.it_s, Vi.lentOk, Vi.outs_nil, Vi.outs_fz, Vi.outs_c, List.tail_cons, Vi.killE, Vi.noOwn, Vi.closed, Vi.closeds, Vi.closedD, Vi.closeds_ints, Vi.wipeE, Vi.resE, Vi.bd_nm, Vi.bd_tp, Vi.bdN, Vi.bdT, Vi.bdsN, Vi.bdNil, Vi.bdCons, Vi.Tg.js, Vi.partM, Vi.eq_int, Vi.eq_str, Vi.eq_bool, Vi.eq_ints]
    · have h := ok_is_step (m := x) hp hp2 hq hq2
      simp -implicitDefEqProofs [Vi.bind_ok, Vi.bind_bad, Vi.bind_ex, Vi.so_ok, Vi.sb_nx, Vi.sb_ret, Vi.sb_bad, Vi.d_fz, Vi.d_olI, Vi.d_ol, Vi.o_some, Vi.tst_b, Vi.tst_i, Vi.tst_l, Vi.tst_s, Vi.tst_n, Vi.oB_some, Vi.oP_some, Vi.oL_some, Vi.rdV_fz, Vi.rdV_ol, Vi.rdV2_some, Vi.mvV_ol, Vi.mvV_fz, Vi.rdVar_c, Vi.ev_var, Vi.ev_mv, Vi.ev_int, Vi.ev_bl, Vi.ev_non, Vi.ev_str, Vi.ev_gi, Vi.ev_gs, Vi.ev_bin, Vi.ev_neg, Vi.ev_cmp, Vi.evT_cmp, Vi.ev_chain, Vi.ev_one, Vi.andK_b, Vi.orK_b, Vi.notK_b, Vi.ev_and, Vi.ev_or, Vi.ev_not, Vi.isB_b, Vi.ev_ite, Vi.ev_tup, Vi.ev_lst, Vi.ev_ix, Vi.ev_slc, Vi.evP_no, Vi.evP_yes, Vi.ev_call, Vi.calK_some, Vi.calR_ok, Vi.evA_nil, Vi.evA_e, Vi.evA_o, Vi.args_nil, Vi.args_e, Vi.args_o, Vi.argK_s, Vi.asm_nil, Vi.asm_e, Vi.asm_o, Vi.asmK_s, Vi.lent_ol, Vi.lent_sc, Vi.lent_fz, Vi.put_nil, Vi.put_e, Vi.put_o, Vi.ev_blt, Vi.ev_isi, Vi.ev_lsc, Vi.lscK_s, Vi.cmpK_ok, Vi.ev_lc, Vi.evC_no, Vi.evC_yes, Vi.evI_e, Vi.evI_r1, Vi.evI_r2, Vi.evs_nil, Vi.evs_cons, Vi.evO_nil, Vi.evO_cons, Vi.olO_s, Vi.olOf_c, Vi.appK_s, Vi.appK2_s, Vi.ev_app, Vi.bwK_ok, Vi.ev_bw, Vi.bwK'_ok, Vi.evT_bw, Vi.evT_chain, Vi.evT_one, Vi.evT_and, Vi.evT_or, Vi.evT_not, Vi.evT_var, Vi.evT_call, Vi.evT_isi, Vi.evT_blt, Vi.evT_ix, Vi.evT_bin, Vi.evT_bl, Vi.ex_pass, Vi.ex_asg, Vi.ex_expr, Vi.ex_ret, Vi.ex_retN, Vi.ex_if, Vi.ex_for, Vi.setK_s, Vi.setK2_s, Vi.setK3_s, Vi.ex_set, Vi.ex_aug, Vi.ex_augS, Vi.augM, Vi.augSM, Vi.exs_nil, Vi.exs_cons, Vi.run_b, Vi.runK_ret, Vi.runK_nx, Vi.frzE_nil, Vi.frz_cons, Vi.frzK_ol, Vi.frzK2_s, Vi.frzK_fz, Vi.frzK_no, Vi.frzK_olI, Vi.rdV_olI, Vi.mvV_olI, Vi.olO_olI, Vi.lent_olI, Vi.closed_olI, Vi.dOf_fz, Vi.dOf_olI, Vi.dOf_olI', Vi.dsOf_fz, Vi.dsOf_ints, Vi.dsOf_nil, Vi.dsOf_cons, Option.map_some, Vi.binD, Vi.add_int, Vi.sub_int, Vi.cmpD, Vi.lt_int, Vi.le_int, Vi.gt_int, Vi.ge_int, Vi.neg_int, Vi.bf_len_l, Vi.bf_len_t, Vi.bf_len_s, Vi.bf_abs, Vi.bf_int, Vi.bf_intb, Vi.bf_max2, Vi.bf_min2, Vi.bf_list_l, Vi.bf_list_t, Vi.bf_tup_l, Vi.bf_sum, Vi.ix_l, Vi.ix_t, Vi.ix_s, Vi.isiD, Vi.chain2, Vi.iop_add, Vi.iop_sub, Vi.it_l, Vi.it_t, Vi.it_s, Vi.lentOk, Vi.outs_nil, Vi.outs_fz, Vi.outs_c, List.tail_cons, Vi.killE, Vi.noOwn, Vi.closed, Vi.closeds, Vi.closedD, Vi.closeds_ints, Vi.wipeE, Vi.resE, Vi.bd_nm, Vi.bd_tp, Vi.bdN, Vi.bdT, Vi.bdsN, Vi.bdNil, Vi.bdCons, Vi.Tg.js, Vi.partM, Vi.eq_int, Vi.eq_str, Vi.eq_bool, Vi.eq_ints, rho_steps_row, h]
    · simp -implicitDefEqProofs [Vi.bind_ok, Vi.bind_bad, Vi.bind_ex, Vi.so_ok, Vi.sb_nx, Vi.sb_ret, Vi.sb_bad, Vi.d_fz, Vi.d_olI, Vi.d_ol, Vi.o_some, Vi.tst_b, Vi.tst_i, Vi.tst_l, Vi.tst_s, Vi.tst_n, Vi.oB_some, Vi.oP_some, Vi.oL_some, Vi.rdV_fz, Vi.rdV_ol, Vi.rdV2_some, Vi.mvV_ol, Vi.mvV_fz, Vi.rdVar_c, Vi.ev_var, Vi.ev_mv, Vi.ev_int, Vi.ev_bl, Vi.ev_non, Vi.ev_str, Vi.ev_gi, Vi.ev_gs, Vi.ev_bin, Vi.ev_neg, Vi.ev_cmp, Vi.evT_cmp, Vi.ev_chain, Vi.ev_one, Vi.andK_b, Vi.orK_b, Vi.notK_b, Vi.ev_and, Vi.ev_or, Vi.ev_not, Vi.isB_b, Vi.ev_ite, Vi.ev_tup, Vi.ev_lst, Vi.ev_ix, Vi.ev_slc, Vi.evP_no, Vi.evP_yes, Vi.ev_call, Vi.calK_some, Vi.calR_ok, Vi.evA_nil, Vi.evA_e, Vi.evA_o, Vi.args_nil, Vi.args_e, Vi.args_o, Vi.argK_s, Vi.asm_nil, Vi.asm_e, Vi.asm_o, Vi.asmK_s, Vi.lent_ol, Vi.lent_sc, Vi.lent_fz, Vi.put_nil, Vi.put_e, Vi.put_o, Vi.ev_blt, Vi.ev_isi, Vi.ev_lsc, Vi.lscK_s, Vi.cmpK_ok, Vi.ev_lc, Vi.evC_no, Vi.evC_yes, Vi.evI_e, Vi.evI_r1, Vi.evI_r2, Vi.evs_nil, Vi.evs_cons, Vi.evO_nil, Vi.evO_cons, Vi.olO_s, Vi.olOf_c, Vi.appK_s, Vi.appK2_s, Vi.ev_app, Vi.bwK_ok, Vi.ev_bw, Vi.bwK'_ok, Vi.evT_bw, Vi.evT_chain, Vi.evT_one, Vi.evT_and, Vi.evT_or, Vi.evT_not, Vi.evT_var, Vi.evT_call, Vi.evT_isi, Vi.evT_blt, Vi.evT_ix, Vi.evT_bin, Vi.evT_bl, Vi.ex_pass, Vi.ex_asg, Vi.ex_expr, Vi.ex_ret, Vi.ex_retN, Vi.ex_if, Vi.ex_for, Vi.setK_s, Vi.setK2_s, Vi.setK3_s, Vi.ex_set, Vi.ex_aug, Vi.ex_augS, Vi.augM, Vi.augSM, Vi.exs_nil, Vi.exs_cons, Vi.run_b, Vi.runK_ret, Vi.runK_nx, Vi.frzE_nil, Vi.frz_cons, Vi.frzK_ol, Vi.frzK2_s, Vi.frzK_fz, Vi.frzK_no, Vi.frzK_olI, Vi.rdV_olI, Vi.mvV_olI, Vi.olO_olI, Vi.lent_olI, Vi.closed_olI, Vi.dOf_fz, Vi.dOf_olI, Vi.dOf_olI', Vi.dsOf_fz, Vi.dsOf_ints, Vi.dsOf_nil, Vi.dsOf_cons, Option.map_some, Vi.binD, Vi.add_int, Vi.sub_int, Vi.cmpD, Vi.lt_int, Vi.le_int, Vi.gt_int, Vi.ge_int, Vi.neg_int, Vi.bf_len_l, Vi.bf_len_t, Vi.bf_len_s, Vi.bf_abs, Vi.bf_int, Vi.bf_intb, Vi.bf_max2, Vi.bf_min2, Vi.bf_list_l, Vi.bf_list_t, Vi.bf_tup_l, Vi.bf_sum, Vi.ix_l, Vi.ix_t, Vi.ix_s, Vi.isiD, Vi.chain2, Vi.iop_add, Vi.iop_sub, Vi.it_l, Vi.it_t, Vi.it_s, Vi.lentOk, Vi.outs_nil, Vi.outs_fz, Vi.outs_c, List.tail_cons, Vi.killE, Vi.noOwn, Vi.closed, Vi.closeds, Vi.closedD, Vi.closeds_ints, Vi.wipeE, Vi.resE, Vi.bd_nm, Vi.bd_tp, Vi.bdN, Vi.bdT, Vi.bdsN, Vi.bdNil, Vi.bdCons, Vi.Tg.js, Vi.partM, Vi.eq_int, Vi.eq_str, Vi.eq_bool, Vi.eq_ints]
  simp -implicitDefEqProofs [den_steps_row, bod_steps_row, b_steps_row_0, Vi.bind_ok, Vi.bind_bad, Vi.bind_ex, Vi.so_ok, Vi.sb_nx, Vi.sb_ret, Vi.sb_bad, Vi.d_fz, Vi.d_olI, Vi.d_ol, Vi.o_some, Vi.tst_b, Vi.tst_i, Vi.tst_l, Vi.tst_s, Vi.tst_n, Vi.oB_some, Vi.oP_some, Vi.oL_some, Vi.rdV_fz, Vi.rdV_ol, Vi.rdV2_some, Vi.mvV_ol, Vi.mvV_fz, Vi.rdVar_c, Vi.ev_var, Vi.ev_mv, Vi.ev_int, Vi.ev_bl, Vi.ev_non, Vi.ev_str, Vi.ev_gi, Vi.ev_gs, Vi.ev_bin, Vi.ev_neg, Vi.ev_cmp, Vi.evT_cmp, Vi.ev_chain, Vi.ev_one, Vi.andK_b, Vi.orK_b, Vi.notK_b, Vi.ev_and, Vi.ev_or, Vi.ev_not, Vi.isB_b, Vi.ev_ite, Vi.ev_tup, Vi.ev_lst, Vi.ev_ix, Vi.ev_slc, Vi.evP_no, Vi.evP_yes, Vi.ev_call, Vi.calK_some, Vi.calR_ok, Vi.evA_nil, Vi.evA_e, Vi.evA_o, Vi.args_nil, Vi.args_e, Vi.args_o, Vi.argK_s, Vi.asm_nil, Vi.asm_e, Vi.asm_o, Vi.asmK_s, Vi.lent_ol, Vi.lent_sc, Vi.lent_fz, Vi.put_nil, Vi.put_e, Vi.put_o, Vi.ev_blt, Vi.ev_isi, Vi.ev_lsc, Vi.lscK_s, Vi.cmpK_ok, Vi.ev_lc, Vi.evC_no, Vi.evC_yes, Vi.evI_e, Vi.evI_r1, Vi.evI_r2, Vi.evs_nil, Vi.evs_cons, Vi.evO_nil, Vi.evO_cons, Vi.olO_s, Vi.olOf_c, Vi.appK_s, Vi.appK2_s, Vi.ev_app, Vi.bwK_ok, Vi.ev_bw, Vi.bwK'_ok, Vi.evT_bw, Vi.evT_chain, Vi.evT_one, Vi.evT_and, Vi.evT_or, Vi.evT_not, Vi.evT_var, Vi.evT_call, Vi.evT_isi, Vi.evT_blt, Vi.evT_ix, Vi.evT_bin, Vi.evT_bl, Vi.ex_pass, Vi.ex_asg, Vi.ex_expr, Vi.ex_ret, Vi.ex_retN, Vi.ex_if, Vi.ex_for, Vi.setK_s, Vi.setK2_s, Vi.setK3_s, Vi.ex_set, Vi.ex_aug, Vi.ex_augS, Vi.augM, Vi.augSM, Vi.exs_nil, Vi.exs_cons, Vi.run_b, Vi.runK_ret, Vi.runK_nx, Vi.frzE_nil, Vi.frz_cons, Vi.frzK_ol, Vi.frzK2_s, Vi.frzK_fz, Vi.frzK_no, Vi.frzK_olI, Vi.rdV_olI, Vi.mvV_olI, Vi.olO_olI, Vi.lent_olI, Vi.closed_olI, Vi.dOf_fz, Vi.dOf_olI, Vi.dOf_olI', Vi.dsOf_fz, Vi.dsOf_ints, Vi.dsOf_nil, Vi.dsOf_cons, Option.map_some, Vi.binD, Vi.add_int, Vi.sub_int, Vi.cmpD, Vi.lt_int, Vi.le_int, Vi.gt_int, Vi.ge_int, Vi.neg_int, Vi.bf_len_l, Vi.bf_len_t, Vi.bf_len_s, Vi.bf_abs, Vi.bf_int, Vi.bf_intb, Vi.bf_max2, Vi.bf_min2, Vi.bf_list_l, Vi.bf_list_t, Vi.bf_tup_l, Vi.bf_sum, Vi.ix_l, Vi.ix_t, Vi.ix_s, Vi.isiD, Vi.chain2, Vi.iop_add, Vi.iop_sub, Vi.it_l, Vi.it_t, Vi.it_s, Vi.lentOk, Vi.outs_nil, Vi.outs_fz, Vi.outs_c, List.tail_cons, Vi.killE, Vi.noOwn, Vi.closed, Vi.closeds, Vi.closedD, Vi.closeds_ints, Vi.wipeE, Vi.resE, Vi.bd_nm, Vi.bd_tp, Vi.bdN, Vi.bdT, Vi.bdsN, Vi.bdNil, Vi.bdCons, Vi.Tg.js, Vi.partM, Vi.eq_int, Vi.eq_str, Vi.eq_bool, Vi.eq_ints, r, c, olI, Function.comp_def]
theorem ok_rowB (hp : 0 < p) (hp2 : p < 2 ^ 40) (hq : 0 < q) (hq2 : q < 2 ^ 40) (hm : 0 ≤ most) (hm2 : most < 2 ^ 20) : den_steps_row_below (I3 p q most) = .ok (olI (rowB p q most)) N3 := by
  have r : rngD [.int 1, .int (most + 1)] = some ((rgI 1 (most + 1)).map .int) := by rw [← rngL_eq]; exact rng_2 (by omega) (by omega) (by omega)
  have c : compL (bdG (.nm 3)) (evC rho_steps_row_below (.yes (.call 0 (.e (.var 0) (.e (.var 1) (.e (.var 3) .nil)))))) (fun env => (ev rho_steps_row_below (.var 3) env).d) [3] ((rgI 1 (most + 1)).map .int) [some (.fz (.int p)), some (.fz (.int q)), some (.fz (.int most)), none] = .ok ((rowB p q most).map .int) [some (.fz (.int p)), some (.fz (.int q)), some (.fz (.int most)), none] := by
    refine compL_fm (isBelow p q) PyData.int _ fun x _ => ⟨[some (.fz (.int p)), some (.fz (.int q)), some (.fz (.int most)), some (.fz (.int x))], [some (.fz (.int p)), some (.fz (.int q)), some (.fz (.int most)), some (.fz (.int x))], ?_, ?_, ?_⟩
    · simp -implicitDefEqProofs [Vi.bind_ok, Vi.bind_bad, Vi.bind_ex, Vi.so_ok, Vi.sb_nx, Vi.sb_ret, Vi.sb_bad, Vi.d_fz, Vi.d_olI, Vi.d_ol, Vi.o_some, Vi.tst_b, Vi.tst_i, Vi.tst_l, Vi.tst_s, Vi.tst_n, Vi.oB_some, Vi.oP_some, Vi.oL_some, Vi.rdV_fz, Vi.rdV_ol, Vi.rdV2_some, Vi.mvV_ol, Vi.mvV_fz, Vi.rdVar_c, Vi.ev_var, Vi.ev_mv, Vi.ev_int, Vi.ev_bl, Vi.ev_non, Vi.ev_str, Vi.ev_gi, Vi.ev_gs, Vi.ev_bin, Vi.ev_neg, Vi.ev_cmp, Vi.evT_cmp, Vi.ev_chain, Vi.ev_one, Vi.andK_b, Vi.orK_b, Vi.notK_b, Vi.ev_and, Vi.ev_or, Vi.ev_not, Vi.isB_b, Vi.ev_ite, Vi.ev_tup, Vi.ev_lst, Vi.ev_ix, Vi.ev_slc, Vi.evP_no, Vi.evP_yes, Vi.ev_call, Vi.calK_some, Vi.calR_ok, Vi.evA_nil, Vi.evA_e, Vi.evA_o, Vi.args_nil, Vi.args_e, Vi.args_o, Vi.argK_s, Vi.asm_nil, Vi.asm_e, Vi.asm_o, Vi.asmK_s, Vi.lent_ol, Vi.lent_sc, Vi.lent_fz, Vi.put_nil, Vi.put_e, Vi.put_o, Vi.ev_blt, Vi.ev_isi, Vi.ev_lsc, Vi.lscK_s, Vi.cmpK_ok, Vi.ev_lc, Vi.evC_no, Vi.evC_yes, Vi.evI_e, Vi.evI_r1, Vi.evI_r2, Vi.evs_nil, Vi.evs_cons, Vi.evO_nil, Vi.evO_cons, Vi.olO_s, Vi.olOf_c, Vi.appK_s, Vi.appK2_s, Vi.ev_app, Vi.bwK_ok, Vi.ev_bw, Vi.bwK'_ok, Vi.evT_bw, Vi.evT_chain, Vi.evT_one, Vi.evT_and, Vi.evT_or, Vi.evT_not, Vi.evT_var, Vi.evT_call, Vi.evT_isi, Vi.evT_blt, Vi.evT_ix, Vi.evT_bin, Vi.evT_bl, Vi.ex_pass, Vi.ex_asg, Vi.ex_expr, Vi.ex_ret, Vi.ex_retN, Vi.ex_if, Vi.ex_for, Vi.setK_s, Vi.setK2_s, Vi.setK3_s, Vi.ex_set, Vi.ex_aug, Vi.ex_augS, Vi.augM, Vi.augSM, Vi.exs_nil, Vi.exs_cons, Vi.run_b, Vi.runK_ret, Vi.runK_nx, Vi.frzE_nil, Vi.frz_cons, Vi.frzK_ol, Vi.frzK2_s, Vi.frzK_fz, Vi.frzK_no, Vi.frzK_olI, Vi.rdV_olI, Vi.mvV_olI, Vi.olO_olI, Vi.lent_olI, Vi.closed_olI, Vi.dOf_fz, Vi.dOf_olI, Vi.dOf_olI', Vi.dsOf_fz, Vi.dsOf_ints, Vi.dsOf_nil, Vi.dsOf_cons, Option.map_some, Vi.binD, Vi.add_int, Vi.sub_int, Vi.cmpD, Vi.lt_int, Vi.le_int, Vi.gt_int, Vi.ge_int, Vi.neg_int, Vi.bf_len_l, Vi.bf_len_t, Vi.bf_len_s, Vi.bf_abs, Vi.bf_int, Vi.bf_intb, Vi.bf_max2, Vi.bf_min2, Vi.bf_list_l, Vi.bf_list_t, Vi.bf_tup_l, Vi.bf_sum, Vi.ix_l, Vi.ix_t, Vi.ix_s, Vi.isiD, Vi.chain2, Vi.iop_add, Vi.iop_sub, Vi.it_l, Vi.it_t, Vi.it_s, Vi.lentOk, Vi.outs_nil, Vi.outs_fz, Vi.outs_c, List.tail_cons, Vi.killE, Vi.noOwn, Vi.closed, Vi.closeds, Vi.closedD, Vi.closeds_ints, Vi.wipeE, Vi.resE, Vi.bd_nm, Vi.bd_tp, Vi.bdN, Vi.bdT, Vi.bdsN, Vi.bdNil, Vi.bdCons, Vi.Tg.js, Vi.partM, Vi.eq_int, Vi.eq_str, Vi.eq_bool, Vi.eq_ints]
    · have h := ok_is_step_below (m := x) hp hp2 hq hq2
      simp -implicitDefEqProofs [Vi.bind_ok, Vi.bind_bad, Vi.bind_ex, Vi.so_ok, Vi.sb_nx, Vi.sb_ret, Vi.sb_bad, Vi.d_fz, Vi.d_olI, Vi.d_ol, Vi.o_some, Vi.tst_b, Vi.tst_i, Vi.tst_l, Vi.tst_s, Vi.tst_n, Vi.oB_some, Vi.oP_some, Vi.oL_some, Vi.rdV_fz, Vi.rdV_ol, Vi.rdV2_some, Vi.mvV_ol, Vi.mvV_fz, Vi.rdVar_c, Vi.ev_var, Vi.ev_mv, Vi.ev_int, Vi.ev_bl, Vi.ev_non, Vi.ev_str, Vi.ev_gi, Vi.ev_gs, Vi.ev_bin, Vi.ev_neg, Vi.ev_cmp, Vi.evT_cmp, Vi.ev_chain, Vi.ev_one, Vi.andK_b, Vi.orK_b, Vi.notK_b, Vi.ev_and, Vi.ev_or, Vi.ev_not, Vi.isB_b, Vi.ev_ite, Vi.ev_tup, Vi.ev_lst, Vi.ev_ix, Vi.ev_slc, Vi.evP_no, Vi.evP_yes, Vi.ev_call, Vi.calK_some, Vi.calR_ok, Vi.evA_nil, Vi.evA_e, Vi.evA_o, Vi.args_nil, Vi.args_e, Vi.args_o, Vi.argK_s, Vi.asm_nil, Vi.asm_e, Vi.asm_o, Vi.asmK_s, Vi.lent_ol, Vi.lent_sc, Vi.lent_fz, Vi.put_nil, Vi.put_e, Vi.put_o, Vi.ev_blt, Vi.ev_isi, Vi.ev_lsc, Vi.lscK_s, Vi.cmpK_ok, Vi.ev_lc, Vi.evC_no, Vi.evC_yes, Vi.evI_e, Vi.evI_r1, Vi.evI_r2, Vi.evs_nil, Vi.evs_cons, Vi.evO_nil, Vi.evO_cons, Vi.olO_s, Vi.olOf_c, Vi.appK_s, Vi.appK2_s, Vi.ev_app, Vi.bwK_ok, Vi.ev_bw, Vi.bwK'_ok, Vi.evT_bw, Vi.evT_chain, Vi.evT_one, Vi.evT_and, Vi.evT_or, Vi.evT_not, Vi.evT_var, Vi.evT_call, Vi.evT_isi, Vi.evT_blt, Vi.evT_ix, Vi.evT_bin, Vi.evT_bl, Vi.ex_pass, Vi.ex_asg, Vi.ex_expr, Vi.ex_ret, Vi.ex_retN, Vi.ex_if, Vi.ex_for, Vi.setK_s, Vi.setK2_s, Vi.setK3_s, Vi.ex_set, Vi.ex_aug, Vi.ex_augS, Vi.augM, Vi.augSM, Vi.exs_nil, Vi.exs_cons, Vi.run_b, Vi.runK_ret, Vi.runK_nx, Vi.frzE_nil, Vi.frz_cons, Vi.frzK_ol, Vi.frzK2_s, Vi.frzK_fz, Vi.frzK_no, Vi.frzK_olI, Vi.rdV_olI, Vi.mvV_olI, Vi.olO_olI, Vi.lent_olI, Vi.closed_olI, Vi.dOf_fz, Vi.dOf_olI, Vi.dOf_olI', Vi.dsOf_fz, Vi.dsOf_ints, Vi.dsOf_nil, Vi.dsOf_cons, Option.map_some, Vi.binD, Vi.add_int, Vi.sub_int, Vi.cmpD, Vi.lt_int, Vi.le_int, Vi.gt_int, Vi.ge_int, Vi.neg_int, Vi.bf_len_l, Vi.bf_len_t, Vi.bf_len_s, Vi.bf_abs, Vi.bf_int, Vi.bf_intb, Vi.bf_max2, Vi.bf_min2, Vi.bf_list_l, Vi.bf_list_t, Vi.bf_tup_l, Vi.bf_sum, Vi.ix_l, Vi.ix_t, Vi.ix_s, Vi.isiD, Vi.chain2, Vi.iop_add, Vi.iop_sub, Vi.it_l, Vi.it_t, Vi.it_s, Vi.lentOk, Vi.outs_nil, Vi.outs_fz, Vi.outs_c, List.tail_cons, Vi.killE, Vi.noOwn, Vi.closed, Vi.closeds, Vi.closedD, Vi.closeds_ints, Vi.wipeE, Vi.resE, Vi.bd_nm, Vi.bd_tp, Vi.bdN, Vi.bdT, Vi.bdsN, Vi.bdNil, Vi.bdCons, Vi.Tg.js, Vi.partM, Vi.eq_int, Vi.eq_str, Vi.eq_bool, Vi.eq_ints, rho_steps_row_below, h]
    · simp -implicitDefEqProofs [Vi.bind_ok, Vi.bind_bad, Vi.bind_ex, Vi.so_ok, Vi.sb_nx, Vi.sb_ret, Vi.sb_bad, Vi.d_fz, Vi.d_olI, Vi.d_ol, Vi.o_some, Vi.tst_b, Vi.tst_i, Vi.tst_l, Vi.tst_s, Vi.tst_n, Vi.oB_some, Vi.oP_some, Vi.oL_some, Vi.rdV_fz, Vi.rdV_ol, Vi.rdV2_some, Vi.mvV_ol, Vi.mvV_fz, Vi.rdVar_c, Vi.ev_var, Vi.ev_mv, Vi.ev_int, Vi.ev_bl, Vi.ev_non, Vi.ev_str, Vi.ev_gi, Vi.ev_gs, Vi.ev_bin, Vi.ev_neg, Vi.ev_cmp, Vi.evT_cmp, Vi.ev_chain, Vi.ev_one, Vi.andK_b, Vi.orK_b, Vi.notK_b, Vi.ev_and, Vi.ev_or, Vi.ev_not, Vi.isB_b, Vi.ev_ite, Vi.ev_tup, Vi.ev_lst, Vi.ev_ix, Vi.ev_slc, Vi.evP_no, Vi.evP_yes, Vi.ev_call, Vi.calK_some, Vi.calR_ok, Vi.evA_nil, Vi.evA_e, Vi.evA_o, Vi.args_nil, Vi.args_e, Vi.args_o, Vi.argK_s, Vi.asm_nil, Vi.asm_e, Vi.asm_o, Vi.asmK_s, Vi.lent_ol, Vi.lent_sc, Vi.lent_fz, Vi.put_nil, Vi.put_e, Vi.put_o, Vi.ev_blt, Vi.ev_isi, Vi.ev_lsc, Vi.lscK_s, Vi.cmpK_ok, Vi.ev_lc, Vi.evC_no, Vi.evC_yes, Vi.evI_e, Vi.evI_r1, Vi.evI_r2, Vi.evs_nil, Vi.evs_cons, Vi.evO_nil, Vi.evO_cons, Vi.olO_s, Vi.olOf_c, Vi.appK_s, Vi.appK2_s, Vi.ev_app, Vi.bwK_ok, Vi.ev_bw, Vi.bwK'_ok, Vi.evT_bw, Vi.evT_chain, Vi.evT_one, Vi.evT_and, Vi.evT_or, Vi.evT_not, Vi.evT_var, Vi.evT_call, Vi.evT_isi, Vi.evT_blt, Vi.evT_ix, Vi.evT_bin, Vi.evT_bl, Vi.ex_pass, Vi.ex_asg, Vi.ex_expr, Vi.ex_ret, Vi.ex_retN, Vi.ex_if, Vi.ex_for, Vi.setK_s, Vi.setK2_s, Vi.setK3_s, Vi.ex_set, Vi.ex_aug, Vi.ex_augS, Vi.augM, Vi.augSM, Vi.exs_nil, Vi.exs_cons, Vi.run_b, Vi.runK_ret, Vi.runK_nx, Vi.frzE_nil, Vi.frz_cons, Vi.frzK_ol, Vi.frzK2_s, Vi.frzK_fz, Vi.frzK_no, Vi.frzK_olI, Vi.rdV_olI, Vi.mvV_olI, Vi.olO_olI, Vi.lent_olI, Vi.closed_olI, Vi.dOf_fz, Vi.dOf_olI, Vi.dOf_olI', Vi.dsOf_fz, Vi.dsOf_ints, Vi.dsOf_nil, Vi.dsOf_cons, Option.map_some, Vi.binD, Vi.add_int, Vi.sub_int, Vi.cmpD, Vi.lt_int, Vi.le_int, Vi.gt_int, Vi.ge_int, Vi.neg_int, Vi.bf_len_l, Vi.bf_len_t, Vi.bf_len_s, Vi.bf_abs, Vi.bf_int, Vi.bf_intb, Vi.bf_max2, Vi.bf_min2, Vi.bf_list_l, Vi.bf_list_t, Vi.bf_tup_l, Vi.bf_sum, Vi.ix_l, Vi.ix_t, Vi.ix_s, Vi.isiD, Vi.chain2, Vi.iop_add, Vi.iop_sub, Vi.it_l, Vi.it_t, Vi.it_s, Vi.lentOk, Vi.outs_nil, Vi.outs_fz, Vi.outs_c, List.tail_cons, Vi.killE, Vi.noOwn, Vi.closed, Vi.closeds, Vi.closedD, Vi.closeds_ints, Vi.wipeE, Vi.resE, Vi.bd_nm, Vi.bd_tp, Vi.bdN, Vi.bdT, Vi.bdsN, Vi.bdNil, Vi.bdCons, Vi.Tg.js, Vi.partM, Vi.eq_int, Vi.eq_str, Vi.eq_bool, Vi.eq_ints]
  simp -implicitDefEqProofs [den_steps_row_below, bod_steps_row_below, b_steps_row_below_0, Vi.bind_ok, Vi.bind_bad, Vi.bind_ex, Vi.so_ok, Vi.sb_nx, Vi.sb_ret, Vi.sb_bad, Vi.d_fz, Vi.d_olI, Vi.d_ol, Vi.o_some, Vi.tst_b, Vi.tst_i, Vi.tst_l, Vi.tst_s, Vi.tst_n, Vi.oB_some, Vi.oP_some, Vi.oL_some, Vi.rdV_fz, Vi.rdV_ol, Vi.rdV2_some, Vi.mvV_ol, Vi.mvV_fz, Vi.rdVar_c, Vi.ev_var, Vi.ev_mv, Vi.ev_int, Vi.ev_bl, Vi.ev_non, Vi.ev_str, Vi.ev_gi, Vi.ev_gs, Vi.ev_bin, Vi.ev_neg, Vi.ev_cmp, Vi.evT_cmp, Vi.ev_chain, Vi.ev_one, Vi.andK_b, Vi.orK_b, Vi.notK_b, Vi.ev_and, Vi.ev_or, Vi.ev_not, Vi.isB_b, Vi.ev_ite, Vi.ev_tup, Vi.ev_lst, Vi.ev_ix, Vi.ev_slc, Vi.evP_no, Vi.evP_yes, Vi.ev_call, Vi.calK_some, Vi.calR_ok, Vi.evA_nil, Vi.evA_e, Vi.evA_o, Vi.args_nil, Vi.args_e, Vi.args_o, Vi.argK_s, Vi.asm_nil, Vi.asm_e, Vi.asm_o, Vi.asmK_s, Vi.lent_ol, Vi.lent_sc, Vi.lent_fz, Vi.put_nil, Vi.put_e, Vi.put_o, Vi.ev_blt, Vi.ev_isi, Vi.ev_lsc, Vi.lscK_s, Vi.cmpK_ok, Vi.ev_lc, Vi.evC_no, Vi.evC_yes, Vi.evI_e, Vi.evI_r1, Vi.evI_r2, Vi.evs_nil, Vi.evs_cons, Vi.evO_nil, Vi.evO_cons, Vi.olO_s, Vi.olOf_c, Vi.appK_s, Vi.appK2_s, Vi.ev_app, Vi.bwK_ok, Vi.ev_bw, Vi.bwK'_ok, Vi.evT_bw, Vi.evT_chain, Vi.evT_one, Vi.evT_and, Vi.evT_or, Vi.evT_not, Vi.evT_var, Vi.evT_call, Vi.evT_isi, Vi.evT_blt, Vi.evT_ix, Vi.evT_bin, Vi.evT_bl, Vi.ex_pass, Vi.ex_asg, Vi.ex_expr, Vi.ex_ret, Vi.ex_retN, Vi.ex_if, Vi.ex_for, Vi.setK_s, Vi.setK2_s, Vi.setK3_s, Vi.ex_set, Vi.ex_aug, Vi.ex_augS, Vi.augM, Vi.augSM, Vi.exs_nil, Vi.exs_cons, Vi.run_b, Vi.runK_ret, Vi.runK_nx, Vi.frzE_nil, Vi.frz_cons, Vi.frzK_ol, Vi.frzK2_s, Vi.frzK_fz, Vi.frzK_no, Vi.frzK_olI, Vi.rdV_olI, Vi.mvV_olI, Vi.olO_olI, Vi.lent_olI, Vi.closed_olI, Vi.dOf_fz, Vi.dOf_olI, Vi.dOf_olI', Vi.dsOf_fz, Vi.dsOf_ints, Vi.dsOf_nil, Vi.dsOf_cons, Option.map_some, Vi.binD, Vi.add_int, Vi.sub_int, Vi.cmpD, Vi.lt_int, Vi.le_int, Vi.gt_int, Vi.ge_int, Vi.neg_int, Vi.bf_len_l, Vi.bf_len_t, Vi.bf_len_s, Vi.bf_abs, Vi.bf_int, Vi.bf_intb, Vi.bf_max2, Vi.bf_min2, Vi.bf_list_l, Vi.bf_list_t, Vi.bf_tup_l, Vi.bf_sum, Vi.ix_l, Vi.ix_t, Vi.ix_s, Vi.isiD, Vi.chain2, Vi.iop_add, Vi.iop_sub, Vi.it_l, Vi.it_t, Vi.it_s, Vi.lentOk, Vi.outs_nil, Vi.outs_fz, Vi.outs_c, List.tail_cons, Vi.killE, Vi.noOwn, Vi.closed, Vi.closeds, Vi.closedD, Vi.closeds_ints, Vi.wipeE, Vi.resE, Vi.bd_nm, Vi.bd_tp, Vi.bdN, Vi.bdT, Vi.bdsN, Vi.bdNil, Vi.bdCons, Vi.Tg.js, Vi.partM, Vi.eq_int, Vi.eq_str, Vi.eq_bool, Vi.eq_ints, r, c, olI, Function.comp_def]
theorem ok_whole {x : Int} : den__law_is_whole [.fz (.int x)] = .ok (.fz (.bool true)) [none] := by
  simp -implicitDefEqProofs [den__law_is_whole, bod__law_is_whole, b__law_is_whole_0, Vi.bind_ok, Vi.bind_bad, Vi.bind_ex, Vi.so_ok, Vi.sb_nx, Vi.sb_ret, Vi.sb_bad, Vi.d_fz, Vi.d_olI, Vi.d_ol, Vi.o_some, Vi.tst_b, Vi.tst_i, Vi.tst_l, Vi.tst_s, Vi.tst_n, Vi.oB_some, Vi.oP_some, Vi.oL_some, Vi.rdV_fz, Vi.rdV_ol, Vi.rdV2_some, Vi.mvV_ol, Vi.mvV_fz, Vi.rdVar_c, Vi.ev_var, Vi.ev_mv, Vi.ev_int, Vi.ev_bl, Vi.ev_non, Vi.ev_str, Vi.ev_gi, Vi.ev_gs, Vi.ev_bin, Vi.ev_neg, Vi.ev_cmp, Vi.evT_cmp, Vi.ev_chain, Vi.ev_one, Vi.andK_b, Vi.orK_b, Vi.notK_b, Vi.ev_and, Vi.ev_or, Vi.ev_not, Vi.isB_b, Vi.ev_ite, Vi.ev_tup, Vi.ev_lst, Vi.ev_ix, Vi.ev_slc, Vi.evP_no, Vi.evP_yes, Vi.ev_call, Vi.calK_some, Vi.calR_ok, Vi.evA_nil, Vi.evA_e, Vi.evA_o, Vi.args_nil, Vi.args_e, Vi.args_o, Vi.argK_s, Vi.asm_nil, Vi.asm_e, Vi.asm_o, Vi.asmK_s, Vi.lent_ol, Vi.lent_sc, Vi.lent_fz, Vi.put_nil, Vi.put_e, Vi.put_o, Vi.ev_blt, Vi.ev_isi, Vi.ev_lsc, Vi.lscK_s, Vi.cmpK_ok, Vi.ev_lc, Vi.evC_no, Vi.evC_yes, Vi.evI_e, Vi.evI_r1, Vi.evI_r2, Vi.evs_nil, Vi.evs_cons, Vi.evO_nil, Vi.evO_cons, Vi.olO_s, Vi.olOf_c, Vi.appK_s, Vi.appK2_s, Vi.ev_app, Vi.bwK_ok, Vi.ev_bw, Vi.bwK'_ok, Vi.evT_bw, Vi.evT_chain, Vi.evT_one, Vi.evT_and, Vi.evT_or, Vi.evT_not, Vi.evT_var, Vi.evT_call, Vi.evT_isi, Vi.evT_blt, Vi.evT_ix, Vi.evT_bin, Vi.evT_bl, Vi.ex_pass, Vi.ex_asg, Vi.ex_expr, Vi.ex_ret, Vi.ex_retN, Vi.ex_if, Vi.ex_for, Vi.setK_s, Vi.setK2_s, Vi.setK3_s, Vi.ex_set, Vi.ex_aug, Vi.ex_augS, Vi.augM, Vi.augSM, Vi.exs_nil, Vi.exs_cons, Vi.run_b, Vi.runK_ret, Vi.runK_nx, Vi.frzE_nil, Vi.frz_cons, Vi.frzK_ol, Vi.frzK2_s, Vi.frzK_fz, Vi.frzK_no, Vi.frzK_olI, Vi.rdV_olI, Vi.mvV_olI, Vi.olO_olI, Vi.lent_olI, Vi.closed_olI, Vi.dOf_fz, Vi.dOf_olI, Vi.dOf_olI', Vi.dsOf_fz, Vi.dsOf_ints, Vi.dsOf_nil, Vi.dsOf_cons, Option.map_some, Vi.binD, Vi.add_int, Vi.sub_int, Vi.cmpD, Vi.lt_int, Vi.le_int, Vi.gt_int, Vi.ge_int, Vi.neg_int, Vi.bf_len_l, Vi.bf_len_t, Vi.bf_len_s, Vi.bf_abs, Vi.bf_int, Vi.bf_intb, Vi.bf_max2, Vi.bf_min2, Vi.bf_list_l, Vi.bf_list_t, Vi.bf_tup_l, Vi.bf_sum, Vi.ix_l, Vi.ix_t, Vi.ix_s, Vi.isiD, Vi.chain2, Vi.iop_add, Vi.iop_sub, Vi.it_l, Vi.it_t, Vi.it_s, Vi.lentOk, Vi.outs_nil, Vi.outs_fz, Vi.outs_c, List.tail_cons, Vi.killE, Vi.noOwn, Vi.closed, Vi.closeds, Vi.closedD, Vi.closeds_ints, Vi.wipeE, Vi.resE, Vi.bd_nm, Vi.bd_tp, Vi.bdN, Vi.bdT, Vi.bdsN, Vi.bdNil, Vi.bdCons, Vi.Tg.js, Vi.partM, Vi.eq_int, Vi.eq_str, Vi.eq_bool, Vi.eq_ints]
theorem ok_told {a b : List Int} : den__law_told [.fz (.list (a.map .int)), .fz (.list (b.map .int))] = .ok (.fz (.bool (decide (a = b)))) [none, none] := by
  have c : compL (bdG (.nm 2)) (evC rho__law_told (.yes (.call 0 (.e (.var 2) .nil)))) (fun env => (ev rho__law_told (.var 2) env).d) [2] (a.map .int) [some (.fz (.list (a.map .int))), some (.fz (.list (b.map .int))), none] = .ok ((a.filter fun _ => true).map .int) [some (.fz (.list (a.map .int))), some (.fz (.list (b.map .int))), none] := by
    refine compL_fm (fun _ => true) PyData.int _ fun x _ => ⟨[some (.fz (.list (a.map .int))), some (.fz (.list (b.map .int))), some (.fz (.int x))], [some (.fz (.list (a.map .int))), some (.fz (.list (b.map .int))), some (.fz (.int x))], ?_, ?_, ?_⟩
    · simp -implicitDefEqProofs [Vi.bind_ok, Vi.bind_bad, Vi.bind_ex, Vi.so_ok, Vi.sb_nx, Vi.sb_ret, Vi.sb_bad, Vi.d_fz, Vi.d_olI, Vi.d_ol, Vi.o_some, Vi.tst_b, Vi.tst_i, Vi.tst_l, Vi.tst_s, Vi.tst_n, Vi.oB_some, Vi.oP_some, Vi.oL_some, Vi.rdV_fz, Vi.rdV_ol, Vi.rdV2_some, Vi.mvV_ol, Vi.mvV_fz, Vi.rdVar_c, Vi.ev_var, Vi.ev_mv, Vi.ev_int, Vi.ev_bl, Vi.ev_non, Vi.ev_str, Vi.ev_gi, Vi.ev_gs, Vi.ev_bin, Vi.ev_neg, Vi.ev_cmp, Vi.evT_cmp, Vi.ev_chain, Vi.ev_one, Vi.andK_b, Vi.orK_b, Vi.notK_b, Vi.ev_and, Vi.ev_or, Vi.ev_not, Vi.isB_b, Vi.ev_ite, Vi.ev_tup, Vi.ev_lst, Vi.ev_ix, Vi.ev_slc, Vi.evP_no, Vi.evP_yes, Vi.ev_call, Vi.calK_some, Vi.calR_ok, Vi.evA_nil, Vi.evA_e, Vi.evA_o, Vi.args_nil, Vi.args_e, Vi.args_o, Vi.argK_s, Vi.asm_nil, Vi.asm_e, Vi.asm_o, Vi.asmK_s, Vi.lent_ol, Vi.lent_sc, Vi.lent_fz, Vi.put_nil, Vi.put_e, Vi.put_o, Vi.ev_blt, Vi.ev_isi, Vi.ev_lsc, Vi.lscK_s, Vi.cmpK_ok, Vi.ev_lc, Vi.evC_no, Vi.evC_yes, Vi.evI_e, Vi.evI_r1, Vi.evI_r2, Vi.evs_nil, Vi.evs_cons, Vi.evO_nil, Vi.evO_cons, Vi.olO_s, Vi.olOf_c, Vi.appK_s, Vi.appK2_s, Vi.ev_app, Vi.bwK_ok, Vi.ev_bw, Vi.bwK'_ok, Vi.evT_bw, Vi.evT_chain, Vi.evT_one, Vi.evT_and, Vi.evT_or, Vi.evT_not, Vi.evT_var, Vi.evT_call, Vi.evT_isi, Vi.evT_blt, Vi.evT_ix, Vi.evT_bin, Vi.evT_bl, Vi.ex_pass, Vi.ex_asg, Vi.ex_expr, Vi.ex_ret, Vi.ex_retN, Vi.ex_if, Vi.ex_for, Vi.setK_s, Vi.setK2_s, Vi.setK3_s, Vi.ex_set, Vi.ex_aug, Vi.ex_augS, Vi.augM, Vi.augSM, Vi.exs_nil, Vi.exs_cons, Vi.run_b, Vi.runK_ret, Vi.runK_nx, Vi.frzE_nil, Vi.frz_cons, Vi.frzK_ol, Vi.frzK2_s, Vi.frzK_fz, Vi.frzK_no, Vi.frzK_olI, Vi.rdV_olI, Vi.mvV_olI, Vi.olO_olI, Vi.lent_olI, Vi.closed_olI, Vi.dOf_fz, Vi.dOf_olI, Vi.dOf_olI', Vi.dsOf_fz, Vi.dsOf_ints, Vi.dsOf_nil, Vi.dsOf_cons, Option.map_some, Vi.binD, Vi.add_int, Vi.sub_int, Vi.cmpD, Vi.lt_int, Vi.le_int, Vi.gt_int, Vi.ge_int, Vi.neg_int, Vi.bf_len_l, Vi.bf_len_t, Vi.bf_len_s, Vi.bf_abs, Vi.bf_int, Vi.bf_intb, Vi.bf_max2, Vi.bf_min2, Vi.bf_list_l, Vi.bf_list_t, Vi.bf_tup_l, Vi.bf_sum, Vi.ix_l, Vi.ix_t, Vi.ix_s, Vi.isiD, Vi.chain2, Vi.iop_add, Vi.iop_sub, Vi.it_l, Vi.it_t, Vi.it_s, Vi.lentOk, Vi.outs_nil, Vi.outs_fz, Vi.outs_c, List.tail_cons, Vi.killE, Vi.noOwn, Vi.closed, Vi.closeds, Vi.closedD, Vi.closeds_ints, Vi.wipeE, Vi.resE, Vi.bd_nm, Vi.bd_tp, Vi.bdN, Vi.bdT, Vi.bdsN, Vi.bdNil, Vi.bdCons, Vi.Tg.js, Vi.partM, Vi.eq_int, Vi.eq_str, Vi.eq_bool, Vi.eq_ints]
    · simp -implicitDefEqProofs [Vi.bind_ok, Vi.bind_bad, Vi.bind_ex, Vi.so_ok, Vi.sb_nx, Vi.sb_ret, Vi.sb_bad, Vi.d_fz, Vi.d_olI, Vi.d_ol, Vi.o_some, Vi.tst_b, Vi.tst_i, Vi.tst_l, Vi.tst_s, Vi.tst_n, Vi.oB_some, Vi.oP_some, Vi.oL_some, Vi.rdV_fz, Vi.rdV_ol, Vi.rdV2_some, Vi.mvV_ol, Vi.mvV_fz, Vi.rdVar_c, Vi.ev_var, Vi.ev_mv, Vi.ev_int, Vi.ev_bl, Vi.ev_non, Vi.ev_str, Vi.ev_gi, Vi.ev_gs, Vi.ev_bin, Vi.ev_neg, Vi.ev_cmp, Vi.evT_cmp, Vi.ev_chain, Vi.ev_one, Vi.andK_b, Vi.orK_b, Vi.notK_b, Vi.ev_and, Vi.ev_or, Vi.ev_not, Vi.isB_b, Vi.ev_ite, Vi.ev_tup, Vi.ev_lst, Vi.ev_ix, Vi.ev_slc, Vi.evP_no, Vi.evP_yes, Vi.ev_call, Vi.calK_some, Vi.calR_ok, Vi.evA_nil, Vi.evA_e, Vi.evA_o, Vi.args_nil, Vi.args_e, Vi.args_o, Vi.argK_s, Vi.asm_nil, Vi.asm_e, Vi.asm_o, Vi.asmK_s, Vi.lent_ol, Vi.lent_sc, Vi.lent_fz, Vi.put_nil, Vi.put_e, Vi.put_o, Vi.ev_blt, Vi.ev_isi, Vi.ev_lsc, Vi.lscK_s, Vi.cmpK_ok, Vi.ev_lc, Vi.evC_no, Vi.evC_yes, Vi.evI_e, Vi.evI_r1, Vi.evI_r2, Vi.evs_nil, Vi.evs_cons, Vi.evO_nil, Vi.evO_cons, Vi.olO_s, Vi.olOf_c, Vi.appK_s, Vi.appK2_s, Vi.ev_app, Vi.bwK_ok, Vi.ev_bw, Vi.bwK'_ok, Vi.evT_bw, Vi.evT_chain, Vi.evT_one, Vi.evT_and, Vi.evT_or, Vi.evT_not, Vi.evT_var, Vi.evT_call, Vi.evT_isi, Vi.evT_blt, Vi.evT_ix, Vi.evT_bin, Vi.evT_bl, Vi.ex_pass, Vi.ex_asg, Vi.ex_expr, Vi.ex_ret, Vi.ex_retN, Vi.ex_if, Vi.ex_for, Vi.setK_s, Vi.setK2_s, Vi.setK3_s, Vi.ex_set, Vi.ex_aug, Vi.ex_augS, Vi.augM, Vi.augSM, Vi.exs_nil, Vi.exs_cons, Vi.run_b, Vi.runK_ret, Vi.runK_nx, Vi.frzE_nil, Vi.frz_cons, Vi.frzK_ol, Vi.frzK2_s, Vi.frzK_fz, Vi.frzK_no, Vi.frzK_olI, Vi.rdV_olI, Vi.mvV_olI, Vi.olO_olI, Vi.lent_olI, Vi.closed_olI, Vi.dOf_fz, Vi.dOf_olI, Vi.dOf_olI', Vi.dsOf_fz, Vi.dsOf_ints, Vi.dsOf_nil, Vi.dsOf_cons, Option.map_some, Vi.binD, Vi.add_int, Vi.sub_int, Vi.cmpD, Vi.lt_int, Vi.le_int, Vi.gt_int, Vi.ge_int, Vi.neg_int, Vi.bf_len_l, Vi.bf_len_t, Vi.bf_len_s, Vi.bf_abs, Vi.bf_int, Vi.bf_intb, Vi.bf_max2, Vi.bf_min2, Vi.bf_list_l, Vi.bf_list_t, Vi.bf_tup_l, Vi.bf_sum, Vi.ix_l, Vi.ix_t, Vi.ix_s, Vi.isiD, Vi.chain2, Vi.iop_add, Vi.iop_sub, Vi.it_l, Vi.it_t, Vi.it_s, Vi.lentOk, Vi.outs_nil, Vi.outs_fz, Vi.outs_c, List.tail_cons, Vi.killE, Vi.noOwn, Vi.closed, Vi.closeds, Vi.closedD, Vi.closeds_ints, Vi.wipeE, Vi.resE, Vi.bd_nm, Vi.bd_tp, Vi.bdN, Vi.bdT, Vi.bdsN, Vi.bdNil, Vi.bdCons, Vi.Tg.js, Vi.partM, Vi.eq_int, Vi.eq_str, Vi.eq_bool, Vi.eq_ints, rho__law_told, ok_whole]
    · simp -implicitDefEqProofs [Vi.bind_ok, Vi.bind_bad, Vi.bind_ex, Vi.so_ok, Vi.sb_nx, Vi.sb_ret, Vi.sb_bad, Vi.d_fz, Vi.d_olI, Vi.d_ol, Vi.o_some, Vi.tst_b, Vi.tst_i, Vi.tst_l, Vi.tst_s, Vi.tst_n, Vi.oB_some, Vi.oP_some, Vi.oL_some, Vi.rdV_fz, Vi.rdV_ol, Vi.rdV2_some, Vi.mvV_ol, Vi.mvV_fz, Vi.rdVar_c, Vi.ev_var, Vi.ev_mv, Vi.ev_int, Vi.ev_bl, Vi.ev_non, Vi.ev_str, Vi.ev_gi, Vi.ev_gs, Vi.ev_bin, Vi.ev_neg, Vi.ev_cmp, Vi.evT_cmp, Vi.ev_chain, Vi.ev_one, Vi.andK_b, Vi.orK_b, Vi.notK_b, Vi.ev_and, Vi.ev_or, Vi.ev_not, Vi.isB_b, Vi.ev_ite, Vi.ev_tup, Vi.ev_lst, Vi.ev_ix, Vi.ev_slc, Vi.evP_no, Vi.evP_yes, Vi.ev_call, Vi.calK_some, Vi.calR_ok, Vi.evA_nil, Vi.evA_e, Vi.evA_o, Vi.args_nil, Vi.args_e, Vi.args_o, Vi.argK_s, Vi.asm_nil, Vi.asm_e, Vi.asm_o, Vi.asmK_s, Vi.lent_ol, Vi.lent_sc, Vi.lent_fz, Vi.put_nil, Vi.put_e, Vi.put_o, Vi.ev_blt, Vi.ev_isi, Vi.ev_lsc, Vi.lscK_s, Vi.cmpK_ok, Vi.ev_lc, Vi.evC_no, Vi.evC_yes, Vi.evI_e, Vi.evI_r1, Vi.evI_r2, Vi.evs_nil, Vi.evs_cons, Vi.evO_nil, Vi.evO_cons, Vi.olO_s, Vi.olOf_c, Vi.appK_s, Vi.appK2_s, Vi.ev_app, Vi.bwK_ok, Vi.ev_bw, Vi.bwK'_ok, Vi.evT_bw, Vi.evT_chain, Vi.evT_one, Vi.evT_and, Vi.evT_or, Vi.evT_not, Vi.evT_var, Vi.evT_call, Vi.evT_isi, Vi.evT_blt, Vi.evT_ix, Vi.evT_bin, Vi.evT_bl, Vi.ex_pass, Vi.ex_asg, Vi.ex_expr, Vi.ex_ret, Vi.ex_retN, Vi.ex_if, Vi.ex_for, Vi.setK_s, Vi.setK2_s, Vi.setK3_s, Vi.ex_set, Vi.ex_aug, Vi.ex_augS, Vi.augM, Vi.augSM, Vi.exs_nil, Vi.exs_cons, Vi.run_b, Vi.runK_ret, Vi.runK_nx, Vi.frzE_nil, Vi.frz_cons, Vi.frzK_ol, Vi.frzK2_s, Vi.frzK_fz, Vi.frzK_no, Vi.frzK_olI, Vi.rdV_olI, Vi.mvV_olI, Vi.olO_olI, Vi.lent_olI, Vi.closed_olI, Vi.dOf_fz, Vi.dOf_olI, Vi.dOf_olI', Vi.dsOf_fz, Vi.dsOf_ints, Vi.dsOf_nil, Vi.dsOf_cons, Option.map_some, Vi.binD, Vi.add_int, Vi.sub_int, Vi.cmpD, Vi.lt_int, Vi.le_int, Vi.gt_int, Vi.ge_int, Vi.neg_int, Vi.bf_len_l, Vi.bf_len_t, Vi.bf_len_s, Vi.bf_abs, Vi.bf_int, Vi.bf_intb, Vi.bf_max2, Vi.bf_min2, Vi.bf_list_l, Vi.bf_list_t, Vi.bf_tup_l, Vi.bf_sum, Vi.ix_l, Vi.ix_t, Vi.ix_s, Vi.isiD, Vi.chain2, Vi.iop_add, Vi.iop_sub, Vi.it_l, Vi.it_t, Vi.it_s, Vi.lentOk, Vi.outs_nil, Vi.outs_fz, Vi.outs_c, List.tail_cons, Vi.killE, Vi.noOwn, Vi.closed, Vi.closeds, Vi.closedD, Vi.closeds_ints, Vi.wipeE, Vi.resE, Vi.bd_nm, Vi.bd_tp, Vi.bdN, Vi.bdT, Vi.bdsN, Vi.bdNil, Vi.bdCons, Vi.Tg.js, Vi.partM, Vi.eq_int, Vi.eq_str, Vi.eq_bool, Vi.eq_ints]
  have e : a.filter (fun _ => true) = a := by simp
  rw [e] at c
  by_cases h : a = b
  · subst h
    simp -implicitDefEqProofs [den__law_told, bod__law_told, b__law_told_0, Vi.bind_ok, Vi.bind_bad, Vi.bind_ex, Vi.so_ok, Vi.sb_nx, Vi.sb_ret, Vi.sb_bad, Vi.d_fz, Vi.d_olI, Vi.d_ol, Vi.o_some, Vi.tst_b, Vi.tst_i, Vi.tst_l, Vi.tst_s, Vi.tst_n, Vi.oB_some, Vi.oP_some, Vi.oL_some, Vi.rdV_fz, Vi.rdV_ol, Vi.rdV2_some, Vi.mvV_ol, Vi.mvV_fz, Vi.rdVar_c, Vi.ev_var, Vi.ev_mv, Vi.ev_int, Vi.ev_bl, Vi.ev_non, Vi.ev_str, Vi.ev_gi, Vi.ev_gs, Vi.ev_bin, Vi.ev_neg, Vi.ev_cmp, Vi.evT_cmp, Vi.ev_chain, Vi.ev_one, Vi.andK_b, Vi.orK_b, Vi.notK_b, Vi.ev_and, Vi.ev_or, Vi.ev_not, Vi.isB_b, Vi.ev_ite, Vi.ev_tup, Vi.ev_lst, Vi.ev_ix, Vi.ev_slc, Vi.evP_no, Vi.evP_yes, Vi.ev_call, Vi.calK_some, Vi.calR_ok, Vi.evA_nil, Vi.evA_e, Vi.evA_o, Vi.args_nil, Vi.args_e, Vi.args_o, Vi.argK_s, Vi.asm_nil, Vi.asm_e, Vi.asm_o, Vi.asmK_s, Vi.lent_ol, Vi.lent_sc, Vi.lent_fz, Vi.put_nil, Vi.put_e, Vi.put_o, Vi.ev_blt, Vi.ev_isi, Vi.ev_lsc, Vi.lscK_s, Vi.cmpK_ok, Vi.ev_lc, Vi.evC_no, Vi.evC_yes, Vi.evI_e, Vi.evI_r1, Vi.evI_r2, Vi.evs_nil, Vi.evs_cons, Vi.evO_nil, Vi.evO_cons, Vi.olO_s, Vi.olOf_c, Vi.appK_s, Vi.appK2_s, Vi.ev_app, Vi.bwK_ok, Vi.ev_bw, Vi.bwK'_ok, Vi.evT_bw, Vi.evT_chain, Vi.evT_one, Vi.evT_and, Vi.evT_or, Vi.evT_not, Vi.evT_var, Vi.evT_call, Vi.evT_isi, Vi.evT_blt, Vi.evT_ix, Vi.evT_bin, Vi.evT_bl, Vi.ex_pass, Vi.ex_asg, Vi.ex_expr, Vi.ex_ret, Vi.ex_retN, Vi.ex_if, Vi.ex_for, Vi.setK_s, Vi.setK2_s, Vi.setK3_s, Vi.ex_set, Vi.ex_aug, Vi.ex_augS, Vi.augM, Vi.augSM, Vi.exs_nil, Vi.exs_cons, Vi.run_b, Vi.runK_ret, Vi.runK_nx, Vi.frzE_nil, Vi.frz_cons, Vi.frzK_ol, Vi.frzK2_s, Vi.frzK_fz, Vi.frzK_no, Vi.frzK_olI, Vi.rdV_olI, Vi.mvV_olI, Vi.olO_olI, Vi.lent_olI, Vi.closed_olI, Vi.dOf_fz, Vi.dOf_olI, Vi.dOf_olI', Vi.dsOf_fz, Vi.dsOf_ints, Vi.dsOf_nil, Vi.dsOf_cons, Option.map_some, Vi.binD, Vi.add_int, Vi.sub_int, Vi.cmpD, Vi.lt_int, Vi.le_int, Vi.gt_int, Vi.ge_int, Vi.neg_int, Vi.bf_len_l, Vi.bf_len_t, Vi.bf_len_s, Vi.bf_abs, Vi.bf_int, Vi.bf_intb, Vi.bf_max2, Vi.bf_min2, Vi.bf_list_l, Vi.bf_list_t, Vi.bf_tup_l, Vi.bf_sum, Vi.ix_l, Vi.ix_t, Vi.ix_s, Vi.isiD, Vi.chain2, Vi.iop_add, Vi.iop_sub, Vi.it_l, Vi.it_t, Vi.it_s, Vi.lentOk, Vi.outs_nil, Vi.outs_fz, Vi.outs_c, List.tail_cons, Vi.killE, Vi.noOwn, Vi.closed, Vi.closeds, Vi.closedD, Vi.closeds_ints, Vi.wipeE, Vi.resE, Vi.bd_nm, Vi.bd_tp, Vi.bdN, Vi.bdT, Vi.bdsN, Vi.bdNil, Vi.bdCons, Vi.Tg.js, Vi.partM, Vi.eq_int, Vi.eq_str, Vi.eq_bool, Vi.eq_ints, c, Function.comp_def]
  · by_cases h2 : a.length = b.length
    · simp -implicitDefEqProofs [den__law_told, bod__law_told, b__law_told_0, Vi.bind_ok, Vi.bind_bad, Vi.bind_ex, Vi.so_ok, Vi.sb_nx, Vi.sb_ret, Vi.sb_bad, Vi.d_fz, Vi.d_olI, Vi.d_ol, Vi.o_some, Vi.tst_b, Vi.tst_i, Vi.tst_l, Vi.tst_s, Vi.tst_n, Vi.oB_some, Vi.oP_some, Vi.oL_some, Vi.rdV_fz, Vi.rdV_ol, Vi.rdV2_some, Vi.mvV_ol, Vi.mvV_fz, Vi.rdVar_c, Vi.ev_var, Vi.ev_mv, Vi.ev_int, Vi.ev_bl, Vi.ev_non, Vi.ev_str, Vi.ev_gi, Vi.ev_gs, Vi.ev_bin, Vi.ev_neg, Vi.ev_cmp, Vi.evT_cmp, Vi.ev_chain, Vi.ev_one, Vi.andK_b, Vi.orK_b, Vi.notK_b, Vi.ev_and, Vi.ev_or, Vi.ev_not, Vi.isB_b, Vi.ev_ite, Vi.ev_tup, Vi.ev_lst, Vi.ev_ix, Vi.ev_slc, Vi.evP_no, Vi.evP_yes, Vi.ev_call, Vi.calK_some, Vi.calR_ok, Vi.evA_nil, Vi.evA_e, Vi.evA_o, Vi.args_nil, Vi.args_e, Vi.args_o, Vi.argK_s, Vi.asm_nil, Vi.asm_e, Vi.asm_o, Vi.asmK_s, Vi.lent_ol, Vi.lent_sc, Vi.lent_fz, Vi.put_nil, Vi.put_e, Vi.put_o, Vi.ev_blt, Vi.ev_isi, Vi.ev_lsc, Vi.lscK_s, Vi.cmpK_ok, Vi.ev_lc, Vi.evC_no, Vi.evC_yes, Vi.evI_e, Vi.evI_r1, Vi.evI_r2, Vi.evs_nil, Vi.evs_cons, Vi.evO_nil, Vi.evO_cons, Vi.olO_s, Vi.olOf_c, Vi.appK_s, Vi.appK2_s, Vi.ev_app, Vi.bwK_ok, Vi.ev_bw, Vi.bwK'_ok, Vi.evT_bw, Vi.evT_chain, Vi.evT_one, Vi.evT_and, Vi.evT_or, Vi.evT_not, Vi.evT_var, Vi.evT_call, Vi.evT_isi, Vi.evT_blt, Vi.evT_ix, Vi.evT_bin, Vi.evT_bl, Vi.ex_pass, Vi.ex_asg, Vi.ex_expr, Vi.ex_ret, Vi.ex_retN, Vi.ex_if, Vi.ex_for, Vi.setK_s, Vi.setK2_s, Vi.setK3_s, Vi.ex_set, Vi.ex_aug, Vi.ex_augS, Vi.augM, Vi.augSM, Vi.exs_nil, Vi.exs_cons, Vi.run_b, Vi.runK_ret, Vi.runK_nx, Vi.frzE_nil, Vi.frz_cons, Vi.frzK_ol, Vi.frzK2_s, Vi.frzK_fz, Vi.frzK_no, Vi.frzK_olI, Vi.rdV_olI, Vi.mvV_olI, Vi.olO_olI, Vi.lent_olI, Vi.closed_olI, Vi.dOf_fz, Vi.dOf_olI, Vi.dOf_olI', Vi.dsOf_fz, Vi.dsOf_ints, Vi.dsOf_nil, Vi.dsOf_cons, Option.map_some, Vi.binD, Vi.add_int, Vi.sub_int, Vi.cmpD, Vi.lt_int, Vi.le_int, Vi.gt_int, Vi.ge_int, Vi.neg_int, Vi.bf_len_l, Vi.bf_len_t, Vi.bf_len_s, Vi.bf_abs, Vi.bf_int, Vi.bf_intb, Vi.bf_max2, Vi.bf_min2, Vi.bf_list_l, Vi.bf_list_t, Vi.bf_tup_l, Vi.bf_sum, Vi.ix_l, Vi.ix_t, Vi.ix_s, Vi.isiD, Vi.chain2, Vi.iop_add, Vi.iop_sub, Vi.it_l, Vi.it_t, Vi.it_s, Vi.lentOk, Vi.outs_nil, Vi.outs_fz, Vi.outs_c, List.tail_cons, Vi.killE, Vi.noOwn, Vi.closed, Vi.closeds, Vi.closedD, Vi.closeds_ints, Vi.wipeE, Vi.resE, Vi.bd_nm, Vi.bd_tp, Vi.bdN, Vi.bdT, Vi.bdsN, Vi.bdNil, Vi.bdCons, Vi.Tg.js, Vi.partM, Vi.eq_int, Vi.eq_str, Vi.eq_bool, Vi.eq_ints, c, Function.comp_def, h, h2]
    · have h3 : ¬ (a.length : Int) = (b.length : Int) := by omega
      simp -implicitDefEqProofs [den__law_told, bod__law_told, b__law_told_0, Vi.bind_ok, Vi.bind_bad, Vi.bind_ex, Vi.so_ok, Vi.sb_nx, Vi.sb_ret, Vi.sb_bad, Vi.d_fz, Vi.d_olI, Vi.d_ol, Vi.o_some, Vi.tst_b, Vi.tst_i, Vi.tst_l, Vi.tst_s, Vi.tst_n, Vi.oB_some, Vi.oP_some, Vi.oL_some, Vi.rdV_fz, Vi.rdV_ol, Vi.rdV2_some, Vi.mvV_ol, Vi.mvV_fz, Vi.rdVar_c, Vi.ev_var, Vi.ev_mv, Vi.ev_int, Vi.ev_bl, Vi.ev_non, Vi.ev_str, Vi.ev_gi, Vi.ev_gs, Vi.ev_bin, Vi.ev_neg, Vi.ev_cmp, Vi.evT_cmp, Vi.ev_chain, Vi.ev_one, Vi.andK_b, Vi.orK_b, Vi.notK_b, Vi.ev_and, Vi.ev_or, Vi.ev_not, Vi.isB_b, Vi.ev_ite, Vi.ev_tup, Vi.ev_lst, Vi.ev_ix, Vi.ev_slc, Vi.evP_no, Vi.evP_yes, Vi.ev_call, Vi.calK_some, Vi.calR_ok, Vi.evA_nil, Vi.evA_e, Vi.evA_o, Vi.args_nil, Vi.args_e, Vi.args_o, Vi.argK_s, Vi.asm_nil, Vi.asm_e, Vi.asm_o, Vi.asmK_s, Vi.lent_ol, Vi.lent_sc, Vi.lent_fz, Vi.put_nil, Vi.put_e, Vi.put_o, Vi.ev_blt, Vi.ev_isi, Vi.ev_lsc, Vi.lscK_s, Vi.cmpK_ok, Vi.ev_lc, Vi.evC_no, Vi.evC_yes, Vi.evI_e, Vi.evI_r1, Vi.evI_r2, Vi.evs_nil, Vi.evs_cons, Vi.evO_nil, Vi.evO_cons, Vi.olO_s, Vi.olOf_c, Vi.appK_s, Vi.appK2_s, Vi.ev_app, Vi.bwK_ok, Vi.ev_bw, Vi.bwK'_ok, Vi.evT_bw, Vi.evT_chain, Vi.evT_one, Vi.evT_and, Vi.evT_or, Vi.evT_not, Vi.evT_var, Vi.evT_call, Vi.evT_isi, Vi.evT_blt, Vi.evT_ix, Vi.evT_bin, Vi.evT_bl, Vi.ex_pass, Vi.ex_asg, Vi.ex_expr, Vi.ex_ret, Vi.ex_retN, Vi.ex_if, Vi.ex_for, Vi.setK_s, Vi.setK2_s, Vi.setK3_s, Vi.ex_set, Vi.ex_aug, Vi.ex_augS, Vi.augM, Vi.augSM, Vi.exs_nil, Vi.exs_cons, Vi.run_b, Vi.runK_ret, Vi.runK_nx, Vi.frzE_nil, Vi.frz_cons, Vi.frzK_ol, Vi.frzK2_s, Vi.frzK_fz, Vi.frzK_no, Vi.frzK_olI, Vi.rdV_olI, Vi.mvV_olI, Vi.olO_olI, Vi.lent_olI, Vi.closed_olI, Vi.dOf_fz, Vi.dOf_olI, Vi.dOf_olI', Vi.dsOf_fz, Vi.dsOf_ints, Vi.dsOf_nil, Vi.dsOf_cons, Option.map_some, Vi.binD, Vi.add_int, Vi.sub_int, Vi.cmpD, Vi.lt_int, Vi.le_int, Vi.gt_int, Vi.ge_int, Vi.neg_int, Vi.bf_len_l, Vi.bf_len_t, Vi.bf_len_s, Vi.bf_abs, Vi.bf_int, Vi.bf_intb, Vi.bf_max2, Vi.bf_min2, Vi.bf_list_l, Vi.bf_list_t, Vi.bf_tup_l, Vi.bf_sum, Vi.ix_l, Vi.ix_t, Vi.ix_s, Vi.isiD, Vi.chain2, Vi.iop_add, Vi.iop_sub, Vi.it_l, Vi.it_t, Vi.it_s, Vi.lentOk, Vi.outs_nil, Vi.outs_fz, Vi.outs_c, List.tail_cons, Vi.killE, Vi.noOwn, Vi.closed, Vi.closeds, Vi.closedD, Vi.closeds_ints, Vi.wipeE, Vi.resE, Vi.bd_nm, Vi.bd_tp, Vi.bdN, Vi.bdT, Vi.bdsN, Vi.bdNil, Vi.bdCons, Vi.Tg.js, Vi.partM, Vi.eq_int, Vi.eq_str, Vi.eq_bool, Vi.eq_ints, c, Function.comp_def, h, h2, h3]
theorem div_le (hm : 0 ≤ most) (hp : 0 < p) (hpq : q ≤ p) : most * q / p ≤ most := Int.ediv_le_of_le_mul hp (Int.mul_le_mul_of_nonneg_left hpq hm)
theorem div_nn (hm : 0 ≤ most) (hp : 0 < p) (hq : 0 < q) : 0 ≤ most * q / p := Int.ediv_nonneg (Int.mul_nonneg hm (by omega)) (by omega)
theorem len_lt {lo hi : Int} {d r : List Int} {x : Int} (e : d ++ x :: r = [] ++ rgI lo hi) : (d.length : Int) < hi - lo := by
  have := congrArg List.length e
  rw [List.length_append, List.length_cons, List.nil_append, rgI_len] at this
  omega
theorem sizeL : sizeLine = 16777216 := sizeLine_eq
theorem ok_down (hp : 0 < p) (hp2 : p < 2 ^ 20) (hq : 0 < q) (hpq : q ≤ p) (hm : 0 ≤ most) (hm2 : most < 2 ^ 20) : den__law_down (I3 p q most) = .ok (olI (down p q most)) N3 := by
  have a1 : ∀ a, mulD (.int a) (.int q) = some (.fz (.int (a * q))) := fun a => mul_r (by omega)
  have a2 : ∀ a, mulD (.int a) (.int p) = some (.fz (.int (a * p))) := fun a => mul_r (by omega)
  have a3 : ∀ a, fdivD (.int a) (.int p) = some (.fz (.int (a / p))) := fun a => div_e hp (by omega)
  have a4 : ∀ a, fdivD (.int a) (.int q) = some (.fz (.int (a / q))) := fun a => div_e hq (by omega)
  have b1 := div_le hm hp hpq
  have b2 := div_nn hm hp hq
  have r : rngD [.int 1, .int (most * q / p + q + 2)] = some ((rgI 1 (most * q / p + q + 2)).map .int) := by rw [← rngL_eq]; exact rng_2 (by omega) (by omega) (by omega)
  obtain ⟨env, f1, t, f2⟩ := forL_inv (bd := bdG (.nm 4)) (mb := exs rho__law_down [] b__law_down_1) (g := PyData.int) (fun d env => ∃ t : Option OV, env = [some (.fz (.int p)), some (.fz (.int q)), some (.fz (.int most)), some (olI ((d.filter fun i => decide (dn p q i ≤ most)).map (dn p q))), t]) (rgI 1 (most * q / p + q + 2)) [] [some (.fz (.int p)), some (.fz (.int q)), some (.fz (.int most)), some (.ol []), none] ⟨none, by simp [olI]⟩
    (by
      rintro d x r env he ⟨t, rfl⟩
      have hl := len_lt he
      have hl2 : ((d.filter fun i => decide (dn p q i ≤ most)).map (dn p q)).length < sizeLine := by
        rw [List.length_map, sizeL]
        have := List.length_filter_le (fun i => decide (dn p q i ≤ most)) d
        omega
      have hd : x * p / q = dn p q x := rfl
      by_cases hx : dn p q x ≤ most
      · have e2 : ((d ++ [x]).filter fun i => decide (dn p q i ≤ most)).map (dn p q) = (d.filter fun i => decide (dn p q i ≤ most)).map (dn p q) ++ [dn p q x] := by simp [hx]
        rw [e2]
        generalize (d.filter fun i => decide (dn p q i ≤ most)).map (dn p q) = L at hl2 ⊢
        refine ⟨[some (.fz (.int p)), some (.fz (.int q)), some (.fz (.int most)), some (olI L), some (.fz (.int x))], _, by simp -implicitDefEqProofs [Vi.bind_ok, Vi.bind_bad, Vi.bind_ex, Vi.so_ok, Vi.sb_nx, Vi.sb_ret, Vi.sb_bad, Vi.d_fz, Vi.d_olI, Vi.d_ol, Vi.o_some, Vi.tst_b, Vi.tst_i, Vi.tst_l, Vi.tst_s, Vi.tst_n, Vi.oB_some, Vi.oP_some, Vi.oL_some, Vi.rdV_fz, Vi.rdV_ol, Vi.rdV2_some, Vi.mvV_ol, Vi.mvV_fz, Vi.rdVar_c, Vi.ev_var, Vi.ev_mv, Vi.ev_int, Vi.ev_bl, Vi.ev_non, Vi.ev_str, Vi.ev_gi, Vi.ev_gs, Vi.ev_bin, Vi.ev_neg, Vi.ev_cmp, Vi.evT_cmp, Vi.ev_chain, Vi.ev_one, Vi.andK_b, Vi.orK_b, Vi.notK_b, Vi.ev_and, Vi.ev_or, Vi.ev_not, Vi.isB_b, Vi.ev_ite, Vi.ev_tup, Vi.ev_lst, Vi.ev_ix, Vi.ev_slc, Vi.evP_no, Vi.evP_yes, Vi.ev_call, Vi.calK_some, Vi.calR_ok, Vi.evA_nil, Vi.evA_e, Vi.evA_o, Vi.args_nil, Vi.args_e, Vi.args_o, Vi.argK_s, Vi.asm_nil, Vi.asm_e, Vi.asm_o, Vi.asmK_s, Vi.lent_ol, Vi.lent_sc, Vi.lent_fz, Vi.put_nil, Vi.put_e, Vi.put_o, Vi.ev_blt, Vi.ev_isi, Vi.ev_lsc, Vi.lscK_s, Vi.cmpK_ok, Vi.ev_lc, Vi.evC_no, Vi.evC_yes, Vi.evI_e, Vi.evI_r1, Vi.evI_r2, Vi.evs_nil, Vi.evs_cons, Vi.evO_nil, Vi.evO_cons, Vi.olO_s, Vi.olOf_c, Vi.appK_s, Vi.appK2_s, Vi.ev_app, Vi.bwK_ok, Vi.ev_bw, Vi.bwK'_ok, Vi.evT_bw, Vi.evT_chain, Vi.evT_one, Vi.evT_and, Vi.evT_or, Vi.evT_not, Vi.evT_var, Vi.evT_call, Vi.evT_isi, Vi.evT_blt, Vi.evT_ix, Vi.evT_bin, Vi.evT_bl, Vi.ex_pass, Vi.ex_asg, Vi.ex_expr, Vi.ex_ret, Vi.ex_retN, Vi.ex_if, Vi.ex_for, Vi.setK_s, Vi.setK2_s, Vi.setK3_s, Vi.ex_set, Vi.ex_aug, Vi.ex_augS, Vi.augM, Vi.augSM, Vi.exs_nil, Vi.exs_cons, Vi.run_b, Vi.runK_ret, Vi.runK_nx, Vi.frzE_nil, Vi.frz_cons, Vi.frzK_ol, Vi.frzK2_s, Vi.frzK_fz, Vi.frzK_no, Vi.frzK_olI, Vi.rdV_olI, Vi.mvV_olI, Vi.olO_olI, Vi.lent_olI, Vi.closed_olI, Vi.dOf_fz, Vi.dOf_olI, Vi.dOf_olI', Vi.dsOf_fz, Vi.dsOf_ints, Vi.dsOf_nil, Vi.dsOf_cons, Option.map_some, Vi.binD, Vi.add_int, Vi.sub_int, Vi.cmpD, Vi.lt_int, Vi.le_int, Vi.gt_int, Vi.ge_int, Vi.neg_int, Vi.bf_len_l, Vi.bf_len_t, Vi.bf_len_s, Vi.bf_abs, Vi.bf_int, Vi.bf_intb, Vi.bf_max2, Vi.bf_min2, Vi.bf_list_l, Vi.bf_list_t, Vi.bf_tup_l, Vi.bf_sum, Vi.ix_l, Vi.ix_t, Vi.ix_s, Vi.isiD, Vi.chain2, Vi.iop_add, Vi.iop_sub, Vi.it_l, Vi.it_t, Vi.it_s, Vi.lentOk, Vi.outs_nil, Vi.outs_fz, Vi.outs_c, List.tail_cons, Vi.killE, Vi.noOwn, Vi.closed, Vi.closeds, Vi.closedD, Vi.closeds_ints, Vi.wipeE, Vi.resE, Vi.bd_nm, Vi.bd_tp, Vi.bdN, Vi.bdT, Vi.bdsN, Vi.bdNil, Vi.bdCons, Vi.Tg.js, Vi.partM, Vi.eq_int, Vi.eq_str, Vi.eq_bool, Vi.eq_ints], ?_, some (.fz (.int x)), rfl⟩
        simp -implicitDefEqProofs [b__law_down_1, Vi.bind_ok, Vi.bind_bad, Vi.bind_ex, Vi.so_ok, Vi.sb_nx, Vi.sb_ret, Vi.sb_bad, Vi.d_fz, Vi.d_olI, Vi.d_ol, Vi.o_some, Vi.tst_b, Vi.tst_i, Vi.tst_l, Vi.tst_s, Vi.tst_n, Vi.oB_some, Vi.oP_some, Vi.oL_some, Vi.rdV_fz, Vi.rdV_ol, Vi.rdV2_some, Vi.mvV_ol, Vi.mvV_fz, Vi.rdVar_c, Vi.ev_var, Vi.ev_mv, Vi.ev_int, Vi.ev_bl, Vi.ev_non, Vi.ev_str, Vi.ev_gi, Vi.ev_gs, Vi.ev_bin, Vi.ev_neg, Vi.ev_cmp, Vi.evT_cmp, Vi.ev_chain, Vi.ev_one, Vi.andK_b, Vi.orK_b, Vi.notK_b, Vi.ev_and, Vi.ev_or, Vi.ev_not, Vi.isB_b, Vi.ev_ite, Vi.ev_tup, Vi.ev_lst, Vi.ev_ix, Vi.ev_slc, Vi.evP_no, Vi.evP_yes, Vi.ev_call, Vi.calK_some, Vi.calR_ok, Vi.evA_nil, Vi.evA_e, Vi.evA_o, Vi.args_nil, Vi.args_e, Vi.args_o, Vi.argK_s, Vi.asm_nil, Vi.asm_e, Vi.asm_o, Vi.asmK_s, Vi.lent_ol, Vi.lent_sc, Vi.lent_fz, Vi.put_nil, Vi.put_e, Vi.put_o, Vi.ev_blt, Vi.ev_isi, Vi.ev_lsc, Vi.lscK_s, Vi.cmpK_ok, Vi.ev_lc, Vi.evC_no, Vi.evC_yes, Vi.evI_e, Vi.evI_r1, Vi.evI_r2, Vi.evs_nil, Vi.evs_cons, Vi.evO_nil, Vi.evO_cons, Vi.olO_s, Vi.olOf_c, Vi.appK_s, Vi.appK2_s, Vi.ev_app, Vi.bwK_ok, Vi.ev_bw, Vi.bwK'_ok, Vi.evT_bw, Vi.evT_chain, Vi.evT_one, Vi.evT_and, Vi.evT_or, Vi.evT_not, Vi.evT_var, Vi.evT_call, Vi.evT_isi, Vi.evT_blt, Vi.evT_ix, Vi.evT_bin, Vi.evT_bl, Vi.ex_pass, Vi.ex_asg, Vi.ex_expr, Vi.ex_ret, Vi.ex_retN, Vi.ex_if, Vi.ex_for, Vi.setK_s, Vi.setK2_s, Vi.setK3_s, Vi.ex_set, Vi.ex_aug, Vi.ex_augS, Vi.augM, Vi.augSM, Vi.exs_nil, Vi.exs_cons, Vi.run_b, Vi.runK_ret, Vi.runK_nx, Vi.frzE_nil, Vi.frz_cons, Vi.frzK_ol, Vi.frzK2_s, Vi.frzK_fz, Vi.frzK_no, Vi.frzK_olI, Vi.rdV_olI, Vi.mvV_olI, Vi.olO_olI, Vi.lent_olI, Vi.closed_olI, Vi.dOf_fz, Vi.dOf_olI, Vi.dOf_olI', Vi.dsOf_fz, Vi.dsOf_ints, Vi.dsOf_nil, Vi.dsOf_cons, Option.map_some, Vi.binD, Vi.add_int, Vi.sub_int, Vi.cmpD, Vi.lt_int, Vi.le_int, Vi.gt_int, Vi.ge_int, Vi.neg_int, Vi.bf_len_l, Vi.bf_len_t, Vi.bf_len_s, Vi.bf_abs, Vi.bf_int, Vi.bf_intb, Vi.bf_max2, Vi.bf_min2, Vi.bf_list_l, Vi.bf_list_t, Vi.bf_tup_l, Vi.bf_sum, Vi.ix_l, Vi.ix_t, Vi.ix_s, Vi.isiD, Vi.chain2, Vi.iop_add, Vi.iop_sub, Vi.it_l, Vi.it_t, Vi.it_s, Vi.lentOk, Vi.outs_nil, Vi.outs_fz, Vi.outs_c, List.tail_cons, Vi.killE, Vi.noOwn, Vi.closed, Vi.closeds, Vi.closedD, Vi.closeds_ints, Vi.wipeE, Vi.resE, Vi.bd_nm, Vi.bd_tp, Vi.bdN, Vi.bdT, Vi.bdsN, Vi.bdNil, Vi.bdCons, Vi.Tg.js, Vi.partM, Vi.eq_int, Vi.eq_str, Vi.eq_bool, Vi.eq_ints, a2, a4, hd, hx, hl2, olI]
      · have e2 : ((d ++ [x]).filter fun i => decide (dn p q i ≤ most)).map (dn p q) = (d.filter fun i => decide (dn p q i ≤ most)).map (dn p q) := by simp [hx]
        rw [e2]
        generalize (d.filter fun i => decide (dn p q i ≤ most)).map (dn p q) = L at hl2 ⊢
        refine ⟨[some (.fz (.int p)), some (.fz (.int q)), some (.fz (.int most)), some (olI L), some (.fz (.int x))], _, by simp -implicitDefEqProofs [Vi.bind_ok, Vi.bind_bad, Vi.bind_ex, Vi.so_ok, Vi.sb_nx, Vi.sb_ret, Vi.sb_bad, Vi.d_fz, Vi.d_olI, Vi.d_ol, Vi.o_some, Vi.tst_b, Vi.tst_i, Vi.tst_l, Vi.tst_s, Vi.tst_n, Vi.oB_some, Vi.oP_some, Vi.oL_some, Vi.rdV_fz, Vi.rdV_ol, Vi.rdV2_some, Vi.mvV_ol, Vi.mvV_fz, Vi.rdVar_c, Vi.ev_var, Vi.ev_mv, Vi.ev_int, Vi.ev_bl, Vi.ev_non, Vi.ev_str, Vi.ev_gi, Vi.ev_gs, Vi.ev_bin, Vi.ev_neg, Vi.ev_cmp, Vi.evT_cmp, Vi.ev_chain, Vi.ev_one, Vi.andK_b, Vi.orK_b, Vi.notK_b, Vi.ev_and, Vi.ev_or, Vi.ev_not, Vi.isB_b, Vi.ev_ite, Vi.ev_tup, Vi.ev_lst, Vi.ev_ix, Vi.ev_slc, Vi.evP_no, Vi.evP_yes, Vi.ev_call, Vi.calK_some, Vi.calR_ok, Vi.evA_nil, Vi.evA_e, Vi.evA_o, Vi.args_nil, Vi.args_e, Vi.args_o, Vi.argK_s, Vi.asm_nil, Vi.asm_e, Vi.asm_o, Vi.asmK_s, Vi.lent_ol, Vi.lent_sc, Vi.lent_fz, Vi.put_nil, Vi.put_e, Vi.put_o, Vi.ev_blt, Vi.ev_isi, Vi.ev_lsc, Vi.lscK_s, Vi.cmpK_ok, Vi.ev_lc, Vi.evC_no, Vi.evC_yes, Vi.evI_e, Vi.evI_r1, Vi.evI_r2, Vi.evs_nil, Vi.evs_cons, Vi.evO_nil, Vi.evO_cons, Vi.olO_s, Vi.olOf_c, Vi.appK_s, Vi.appK2_s, Vi.ev_app, Vi.bwK_ok, Vi.ev_bw, Vi.bwK'_ok, Vi.evT_bw, Vi.evT_chain, Vi.evT_one, Vi.evT_and, Vi.evT_or, Vi.evT_not, Vi.evT_var, Vi.evT_call, Vi.evT_isi, Vi.evT_blt, Vi.evT_ix, Vi.evT_bin, Vi.evT_bl, Vi.ex_pass, Vi.ex_asg, Vi.ex_expr, Vi.ex_ret, Vi.ex_retN, Vi.ex_if, Vi.ex_for, Vi.setK_s, Vi.setK2_s, Vi.setK3_s, Vi.ex_set, Vi.ex_aug, Vi.ex_augS, Vi.augM, Vi.augSM, Vi.exs_nil, Vi.exs_cons, Vi.run_b, Vi.runK_ret, Vi.runK_nx, Vi.frzE_nil, Vi.frz_cons, Vi.frzK_ol, Vi.frzK2_s, Vi.frzK_fz, Vi.frzK_no, Vi.frzK_olI, Vi.rdV_olI, Vi.mvV_olI, Vi.olO_olI, Vi.lent_olI, Vi.closed_olI, Vi.dOf_fz, Vi.dOf_olI, Vi.dOf_olI', Vi.dsOf_fz, Vi.dsOf_ints, Vi.dsOf_nil, Vi.dsOf_cons, Option.map_some, Vi.binD, Vi.add_int, Vi.sub_int, Vi.cmpD, Vi.lt_int, Vi.le_int, Vi.gt_int, Vi.ge_int, Vi.neg_int, Vi.bf_len_l, Vi.bf_len_t, Vi.bf_len_s, Vi.bf_abs, Vi.bf_int, Vi.bf_intb, Vi.bf_max2, Vi.bf_min2, Vi.bf_list_l, Vi.bf_list_t, Vi.bf_tup_l, Vi.bf_sum, Vi.ix_l, Vi.ix_t, Vi.ix_s, Vi.isiD, Vi.chain2, Vi.iop_add, Vi.iop_sub, Vi.it_l, Vi.it_t, Vi.it_s, Vi.lentOk, Vi.outs_nil, Vi.outs_fz, Vi.outs_c, List.tail_cons, Vi.killE, Vi.noOwn, Vi.closed, Vi.closeds, Vi.closedD, Vi.closeds_ints, Vi.wipeE, Vi.resE, Vi.bd_nm, Vi.bd_tp, Vi.bdN, Vi.bdT, Vi.bdsN, Vi.bdNil, Vi.bdCons, Vi.Tg.js, Vi.partM, Vi.eq_int, Vi.eq_str, Vi.eq_bool, Vi.eq_ints], ?_, some (.fz (.int x)), rfl⟩
        simp -implicitDefEqProofs [b__law_down_1, Vi.bind_ok, Vi.bind_bad, Vi.bind_ex, Vi.so_ok, Vi.sb_nx, Vi.sb_ret, Vi.sb_bad, Vi.d_fz, Vi.d_olI, Vi.d_ol, Vi.o_some, Vi.tst_b, Vi.tst_i, Vi.tst_l, Vi.tst_s, Vi.tst_n, Vi.oB_some, Vi.oP_some, Vi.oL_some, Vi.rdV_fz, Vi.rdV_ol, Vi.rdV2_some, Vi.mvV_ol, Vi.mvV_fz, Vi.rdVar_c, Vi.ev_var, Vi.ev_mv, Vi.ev_int, Vi.ev_bl, Vi.ev_non, Vi.ev_str, Vi.ev_gi, Vi.ev_gs, Vi.ev_bin, Vi.ev_neg, Vi.ev_cmp, Vi.evT_cmp, Vi.ev_chain, Vi.ev_one, Vi.andK_b, Vi.orK_b, Vi.notK_b, Vi.ev_and, Vi.ev_or, Vi.ev_not, Vi.isB_b, Vi.ev_ite, Vi.ev_tup, Vi.ev_lst, Vi.ev_ix, Vi.ev_slc, Vi.evP_no, Vi.evP_yes, Vi.ev_call, Vi.calK_some, Vi.calR_ok, Vi.evA_nil, Vi.evA_e, Vi.evA_o, Vi.args_nil, Vi.args_e, Vi.args_o, Vi.argK_s, Vi.asm_nil, Vi.asm_e, Vi.asm_o, Vi.asmK_s, Vi.lent_ol, Vi.lent_sc, Vi.lent_fz, Vi.put_nil, Vi.put_e, Vi.put_o, Vi.ev_blt, Vi.ev_isi, Vi.ev_lsc, Vi.lscK_s, Vi.cmpK_ok, Vi.ev_lc, Vi.evC_no, Vi.evC_yes, Vi.evI_e, Vi.evI_r1, Vi.evI_r2, Vi.evs_nil, Vi.evs_cons, Vi.evO_nil, Vi.evO_cons, Vi.olO_s, Vi.olOf_c, Vi.appK_s, Vi.appK2_s, Vi.ev_app, Vi.bwK_ok, Vi.ev_bw, Vi.bwK'_ok, Vi.evT_bw, Vi.evT_chain, Vi.evT_one, Vi.evT_and, Vi.evT_or, Vi.evT_not, Vi.evT_var, Vi.evT_call, Vi.evT_isi, Vi.evT_blt, Vi.evT_ix, Vi.evT_bin, Vi.evT_bl, Vi.ex_pass, Vi.ex_asg, Vi.ex_expr, Vi.ex_ret, Vi.ex_retN, Vi.ex_if, Vi.ex_for, Vi.setK_s, Vi.setK2_s, Vi.setK3_s, Vi.ex_set, Vi.ex_aug, Vi.ex_augS, Vi.augM, Vi.augSM, Vi.exs_nil, Vi.exs_cons, Vi.run_b, Vi.runK_ret, Vi.runK_nx, Vi.frzE_nil, Vi.frz_cons, Vi.frzK_ol, Vi.frzK2_s, Vi.frzK_fz, Vi.frzK_no, Vi.frzK_olI, Vi.rdV_olI, Vi.mvV_olI, Vi.olO_olI, Vi.lent_olI, Vi.closed_olI, Vi.dOf_fz, Vi.dOf_olI, Vi.dOf_olI', Vi.dsOf_fz, Vi.dsOf_ints, Vi.dsOf_nil, Vi.dsOf_cons, Option.map_some, Vi.binD, Vi.add_int, Vi.sub_int, Vi.cmpD, Vi.lt_int, Vi.le_int, Vi.gt_int, Vi.ge_int, Vi.neg_int, Vi.bf_len_l, Vi.bf_len_t, Vi.bf_len_s, Vi.bf_abs, Vi.bf_int, Vi.bf_intb, Vi.bf_max2, Vi.bf_min2, Vi.bf_list_l, Vi.bf_list_t, Vi.bf_tup_l, Vi.bf_sum, Vi.ix_l, Vi.ix_t, Vi.ix_s, Vi.isiD, Vi.chain2, Vi.iop_add, Vi.iop_sub, Vi.it_l, Vi.it_t, Vi.it_s, Vi.lentOk, Vi.outs_nil, Vi.outs_fz, Vi.outs_c, List.tail_cons, Vi.killE, Vi.noOwn, Vi.closed, Vi.closeds, Vi.closedD, Vi.closeds_ints, Vi.wipeE, Vi.resE, Vi.bd_nm, Vi.bd_tp, Vi.bdN, Vi.bdT, Vi.bdsN, Vi.bdNil, Vi.bdCons, Vi.Tg.js, Vi.partM, Vi.eq_int, Vi.eq_str, Vi.eq_bool, Vi.eq_ints, a2, a4, hd, hx, olI])
  subst f2
  simp -implicitDefEqProofs [den__law_down, bod__law_down, b__law_down_0, b__law_down_2, b__law_down_3, Vi.bind_ok, Vi.bind_bad, Vi.bind_ex, Vi.so_ok, Vi.sb_nx, Vi.sb_ret, Vi.sb_bad, Vi.d_fz, Vi.d_olI, Vi.d_ol, Vi.o_some, Vi.tst_b, Vi.tst_i, Vi.tst_l, Vi.tst_s, Vi.tst_n, Vi.oB_some, Vi.oP_some, Vi.oL_some, Vi.rdV_fz, Vi.rdV_ol, Vi.rdV2_some, Vi.mvV_ol, Vi.mvV_fz, Vi.rdVar_c, Vi.ev_var, Vi.ev_mv, Vi.ev_int, Vi.ev_bl, Vi.ev_non, Vi.ev_str, Vi.ev_gi, Vi.ev_gs, Vi.ev_bin, Vi.ev_neg, Vi.ev_cmp, Vi.evT_cmp, Vi.ev_chain, Vi.ev_one, Vi.andK_b, Vi.orK_b, Vi.notK_b, Vi.ev_and, Vi.ev_or, Vi.ev_not, Vi.isB_b, Vi.ev_ite, Vi.ev_tup, Vi.ev_lst, Vi.ev_ix, Vi.ev_slc, Vi.evP_no, Vi.evP_yes, Vi.ev_call, Vi.calK_some, Vi.calR_ok, Vi.evA_nil, Vi.evA_e, Vi.evA_o, Vi.args_nil, Vi.args_e, Vi.args_o, Vi.argK_s, Vi.asm_nil, Vi.asm_e, Vi.asm_o, Vi.asmK_s, Vi.lent_ol, Vi.lent_sc, Vi.lent_fz, Vi.put_nil, Vi.put_e, Vi.put_o, Vi.ev_blt, Vi.ev_isi, Vi.ev_lsc, Vi.lscK_s, Vi.cmpK_ok, Vi.ev_lc, Vi.evC_no, Vi.evC_yes, Vi.evI_e, Vi.evI_r1, Vi.evI_r2, Vi.evs_nil, Vi.evs_cons, Vi.evO_nil, Vi.evO_cons, Vi.olO_s, Vi.olOf_c, Vi.appK_s, Vi.appK2_s, Vi.ev_app, Vi.bwK_ok, Vi.ev_bw, Vi.bwK'_ok, Vi.evT_bw, Vi.evT_chain, Vi.evT_one, Vi.evT_and, Vi.evT_or, Vi.evT_not, Vi.evT_var, Vi.evT_call, Vi.evT_isi, Vi.evT_blt, Vi.evT_ix, Vi.evT_bin, Vi.evT_bl, Vi.ex_pass, Vi.ex_asg, Vi.ex_expr, Vi.ex_ret, Vi.ex_retN, Vi.ex_if, Vi.ex_for, Vi.setK_s, Vi.setK2_s, Vi.setK3_s, Vi.ex_set, Vi.ex_aug, Vi.ex_augS, Vi.augM, Vi.augSM, Vi.exs_nil, Vi.exs_cons, Vi.run_b, Vi.runK_ret, Vi.runK_nx, Vi.frzE_nil, Vi.frz_cons, Vi.frzK_ol, Vi.frzK2_s, Vi.frzK_fz, Vi.frzK_no, Vi.frzK_olI, Vi.rdV_olI, Vi.mvV_olI, Vi.olO_olI, Vi.lent_olI, Vi.closed_olI, Vi.dOf_fz, Vi.dOf_olI, Vi.dOf_olI', Vi.dsOf_fz, Vi.dsOf_ints, Vi.dsOf_nil, Vi.dsOf_cons, Option.map_some, Vi.binD, Vi.add_int, Vi.sub_int, Vi.cmpD, Vi.lt_int, Vi.le_int, Vi.gt_int, Vi.ge_int, Vi.neg_int, Vi.bf_len_l, Vi.bf_len_t, Vi.bf_len_s, Vi.bf_abs, Vi.bf_int, Vi.bf_intb, Vi.bf_max2, Vi.bf_min2, Vi.bf_list_l, Vi.bf_list_t, Vi.bf_tup_l, Vi.bf_sum, Vi.ix_l, Vi.ix_t, Vi.ix_s, Vi.isiD, Vi.chain2, Vi.iop_add, Vi.iop_sub, Vi.it_l, Vi.it_t, Vi.it_s, Vi.lentOk, Vi.outs_nil, Vi.outs_fz, Vi.outs_c, List.tail_cons, Vi.killE, Vi.noOwn, Vi.closed, Vi.closeds, Vi.closedD, Vi.closeds_ints, Vi.wipeE, Vi.resE, Vi.bd_nm, Vi.bd_tp, Vi.bdN, Vi.bdT, Vi.bdsN, Vi.bdNil, Vi.bdCons, Vi.Tg.js, Vi.partM, Vi.eq_int, Vi.eq_str, Vi.eq_bool, Vi.eq_ints, a1, a3, r, f1, olI, down]
theorem ok_below (hp : 0 < p) (hp2 : p < 2 ^ 20) (hq : 0 < q) (hpq : q ≤ p) (hm : 0 ≤ most) (hm2 : most < 2 ^ 20) : den__law_below (I3 p q most) = .ok (olI (below p q most)) N3 := by
  have a1 : ∀ a, mulD (.int a) (.int q) = some (.fz (.int (a * q))) := fun a => mul_r (by omega)
  have a2 : ∀ a, mulD (.int a) (.int p) = some (.fz (.int (a * p))) := fun a => mul_r (by omega)
  have a3 : ∀ a, fdivD (.int a) (.int p) = some (.fz (.int (a / p))) := fun a => div_e hp (by omega)
  have a4 : ∀ a, fdivD (.int a) (.int q) = some (.fz (.int (a / q))) := fun a => div_e hq (by omega)
  have b1 := div_le (most := most + 1) (by omega) hp hpq
  have b2 := div_nn (most := most + 1) (by omega) hp hq
  have r : rngD [.int 1, .int ((most + 1) * q / p + q + 2)] = some ((rgI 1 ((most + 1) * q / p + q + 2)).map .int) := by rw [← rngL_eq]; exact rng_2 (by omega) (by omega) (by omega)
  obtain ⟨env, f1, t, t2, f2⟩ := forL_inv (bd := bdG (.nm 4)) (mb := exs rho__law_below [] b__law_below_2) (g := PyData.int) (fun d env => ∃ t t2 : Option OV, env = [some (.fz (.int p)), some (.fz (.int q)), some (.fz (.int most)), some (olI ((d.filter fun i => decide (1 ≤ up p q i ∧ up p q i ≤ most)).map (up p q))), t, t2]) (rgI 1 ((most + 1) * q / p + q + 2)) [] [some (.fz (.int p)), some (.fz (.int q)), some (.fz (.int most)), some (.ol []), none, none] ⟨none, none, by simp [olI]⟩
    (by
      rintro d x r env he ⟨t, t2, rfl⟩
      have hl := len_lt he
      have hl2 : ((d.filter fun i => decide (1 ≤ up p q i ∧ up p q i ≤ most)).map (up p q)).length < sizeLine := by
        rw [List.length_map, sizeL]
        have := List.length_filter_le (fun i => decide (1 ≤ up p q i ∧ up p q i ≤ most)) d
        omega
      have hu : (x * p + q - 1) / q - 1 = up p q x := rfl
      by_cases h1 : 1 ≤ up p q x ∧ up p q x ≤ most
      · have e2 : ((d ++ [x]).filter fun i => decide (1 ≤ up p q i ∧ up p q i ≤ most)).map (up p q) = (d.filter fun i => decide (1 ≤ up p q i ∧ up p q i ≤ most)).map (up p q) ++ [up p q x] := by simp [h1]
        rw [e2]
        generalize (d.filter fun i => decide (1 ≤ up p q i ∧ up p q i ≤ most)).map (up p q) = L at hl2 ⊢
        refine ⟨[some (.fz (.int p)), some (.fz (.int q)), some (.fz (.int most)), some (olI L), some (.fz (.int x)), t2], _, by simp -implicitDefEqProofs [Vi.bind_ok, Vi.bind_bad, Vi.bind_ex, Vi.so_ok, Vi.sb_nx, Vi.sb_ret, Vi.sb_bad, Vi.d_fz, Vi.d_olI, Vi.d_ol, Vi.o_some, Vi.tst_b, Vi.tst_i, Vi.tst_l, Vi.tst_s, Vi.tst_n, Vi.oB_some, Vi.oP_some, Vi.oL_some, Vi.rdV_fz, Vi.rdV_ol, Vi.rdV2_some, Vi.mvV_ol, Vi.mvV_fz, Vi.rdVar_c, Vi.ev_var, Vi.ev_mv, Vi.ev_int, Vi.ev_bl, Vi.ev_non, Vi.ev_str, Vi.ev_gi, Vi.ev_gs, Vi.ev_bin, Vi.ev_neg, Vi.ev_cmp, Vi.evT_cmp, Vi.ev_chain, Vi.ev_one, Vi.andK_b, Vi.orK_b, Vi.notK_b, Vi.ev_and, Vi.ev_or, Vi.ev_not, Vi.isB_b, Vi.ev_ite, Vi.ev_tup, Vi.ev_lst, Vi.ev_ix, Vi.ev_slc, Vi.evP_no, Vi.evP_yes, Vi.ev_call, Vi.calK_some, Vi.calR_ok, Vi.evA_nil, Vi.evA_e, Vi.evA_o, Vi.args_nil, Vi.args_e, Vi.args_o, Vi.argK_s, Vi.asm_nil, Vi.asm_e, Vi.asm_o, Vi.asmK_s, Vi.lent_ol, Vi.lent_sc, Vi.lent_fz, Vi.put_nil, Vi.put_e, Vi.put_o, Vi.ev_blt, Vi.ev_isi, Vi.ev_lsc, Vi.lscK_s, Vi.cmpK_ok, Vi.ev_lc, Vi.evC_no, Vi.evC_yes, Vi.evI_e, Vi.evI_r1, Vi.evI_r2, Vi.evs_nil, Vi.evs_cons, Vi.evO_nil, Vi.evO_cons, Vi.olO_s, Vi.olOf_c, Vi.appK_s, Vi.appK2_s, Vi.ev_app, Vi.bwK_ok, Vi.ev_bw, Vi.bwK'_ok, Vi.evT_bw, Vi.evT_chain, Vi.evT_one, Vi.evT_and, Vi.evT_or, Vi.evT_not, Vi.evT_var, Vi.evT_call, Vi.evT_isi, Vi.evT_blt, Vi.evT_ix, Vi.evT_bin, Vi.evT_bl, Vi.ex_pass, Vi.ex_asg, Vi.ex_expr, Vi.ex_ret, Vi.ex_retN, Vi.ex_if, Vi.ex_for, Vi.setK_s, Vi.setK2_s, Vi.setK3_s, Vi.ex_set, Vi.ex_aug, Vi.ex_augS, Vi.augM, Vi.augSM, Vi.exs_nil, Vi.exs_cons, Vi.run_b, Vi.runK_ret, Vi.runK_nx, Vi.frzE_nil, Vi.frz_cons, Vi.frzK_ol, Vi.frzK2_s, Vi.frzK_fz, Vi.frzK_no, Vi.frzK_olI, Vi.rdV_olI, Vi.mvV_olI, Vi.olO_olI, Vi.lent_olI, Vi.closed_olI, Vi.dOf_fz, Vi.dOf_olI, Vi.dOf_olI', Vi.dsOf_fz, Vi.dsOf_ints, Vi.dsOf_nil, Vi.dsOf_cons, Option.map_some, Vi.binD, Vi.add_int, Vi.sub_int, Vi.cmpD, Vi.lt_int, Vi.le_int, Vi.gt_int, Vi.ge_int, Vi.neg_int, Vi.bf_len_l, Vi.bf_len_t, Vi.bf_len_s, Vi.bf_abs, Vi.bf_int, Vi.bf_intb, Vi.bf_max2, Vi.bf_min2, Vi.bf_list_l, Vi.bf_list_t, Vi.bf_tup_l, Vi.bf_sum, Vi.ix_l, Vi.ix_t, Vi.ix_s, Vi.isiD, Vi.chain2, Vi.iop_add, Vi.iop_sub, Vi.it_l, Vi.it_t, Vi.it_s, Vi.lentOk, Vi.outs_nil, Vi.outs_fz, Vi.outs_c, List.tail_cons, Vi.killE, Vi.noOwn, Vi.closed, Vi.closeds, Vi.closedD, Vi.closeds_ints, Vi.wipeE, Vi.resE, Vi.bd_nm, Vi.bd_tp, Vi.bdN, Vi.bdT, Vi.bdsN, Vi.bdNil, Vi.bdCons, Vi.Tg.js, Vi.partM, Vi.eq_int, Vi.eq_str, Vi.eq_bool, Vi.eq_ints], ?_, some (.fz (.int x)), some (.fz (.int (up p q x))), rfl⟩
        simp -implicitDefEqProofs [b__law_below_1, b__law_below_2, Vi.bind_ok, Vi.bind_bad, Vi.bind_ex, Vi.so_ok, Vi.sb_nx, Vi.sb_ret, Vi.sb_bad, Vi.d_fz, Vi.d_olI, Vi.d_ol, Vi.o_some, Vi.tst_b, Vi.tst_i, Vi.tst_l, Vi.tst_s, Vi.tst_n, Vi.oB_some, Vi.oP_some, Vi.oL_some, Vi.rdV_fz, Vi.rdV_ol, Vi.rdV2_some, Vi.mvV_ol, Vi.mvV_fz, Vi.rdVar_c, Vi.ev_var, Vi.ev_mv, Vi.ev_int, Vi.ev_bl, Vi.ev_non, Vi.ev_str, Vi.ev_gi, Vi.ev_gs, Vi.ev_bin, Vi.ev_neg, Vi.ev_cmp, Vi.evT_cmp, Vi.ev_chain, Vi.ev_one, Vi.andK_b, Vi.orK_b, Vi.notK_b, Vi.ev_and, Vi.ev_or, Vi.ev_not, Vi.isB_b, Vi.ev_ite, Vi.ev_tup, Vi.ev_lst, Vi.ev_ix, Vi.ev_slc, Vi.evP_no, Vi.evP_yes, Vi.ev_call, Vi.calK_some, Vi.calR_ok, Vi.evA_nil, Vi.evA_e, Vi.evA_o, Vi.args_nil, Vi.args_e, Vi.args_o, Vi.argK_s, Vi.asm_nil, Vi.asm_e, Vi.asm_o, Vi.asmK_s, Vi.lent_ol, Vi.lent_sc, Vi.lent_fz, Vi.put_nil, Vi.put_e, Vi.put_o, Vi.ev_blt, Vi.ev_isi, Vi.ev_lsc, Vi.lscK_s, Vi.cmpK_ok, Vi.ev_lc, Vi.evC_no, Vi.evC_yes, Vi.evI_e, Vi.evI_r1, Vi.evI_r2, Vi.evs_nil, Vi.evs_cons, Vi.evO_nil, Vi.evO_cons, Vi.olO_s, Vi.olOf_c, Vi.appK_s, Vi.appK2_s, Vi.ev_app, Vi.bwK_ok, Vi.ev_bw, Vi.bwK'_ok, Vi.evT_bw, Vi.evT_chain, Vi.evT_one, Vi.evT_and, Vi.evT_or, Vi.evT_not, Vi.evT_var, Vi.evT_call, Vi.evT_isi, Vi.evT_blt, Vi.evT_ix, Vi.evT_bin, Vi.evT_bl, Vi.ex_pass, Vi.ex_asg, Vi.ex_expr, Vi.ex_ret, Vi.ex_retN, Vi.ex_if, Vi.ex_for, Vi.setK_s, Vi.setK2_s, Vi.setK3_s, Vi.ex_set, Vi.ex_aug, Vi.ex_augS, Vi.augM, Vi.augSM, Vi.exs_nil, Vi.exs_cons, Vi.run_b, Vi.runK_ret, Vi.runK_nx, Vi.frzE_nil, Vi.frz_cons, Vi.frzK_ol, Vi.frzK2_s, Vi.frzK_fz, Vi.frzK_no, Vi.frzK_olI, Vi.rdV_olI, Vi.mvV_olI, Vi.olO_olI, Vi.lent_olI, Vi.closed_olI, Vi.dOf_fz, Vi.dOf_olI, Vi.dOf_olI', Vi.dsOf_fz, Vi.dsOf_ints, Vi.dsOf_nil, Vi.dsOf_cons, Option.map_some, Vi.binD, Vi.add_int, Vi.sub_int, Vi.cmpD, Vi.lt_int, Vi.le_int, Vi.gt_int, Vi.ge_int, Vi.neg_int, Vi.bf_len_l, Vi.bf_len_t, Vi.bf_len_s, Vi.bf_abs, Vi.bf_int, Vi.bf_intb, Vi.bf_max2, Vi.bf_min2, Vi.bf_list_l, Vi.bf_list_t, Vi.bf_tup_l, Vi.bf_sum, Vi.ix_l, Vi.ix_t, Vi.ix_s, Vi.isiD, Vi.chain2, Vi.iop_add, Vi.iop_sub, Vi.it_l, Vi.it_t, Vi.it_s, Vi.lentOk, Vi.outs_nil, Vi.outs_fz, Vi.outs_c, List.tail_cons, Vi.killE, Vi.noOwn, Vi.closed, Vi.closeds, Vi.closedD, Vi.closeds_ints, Vi.wipeE, Vi.resE, Vi.bd_nm, Vi.bd_tp, Vi.bdN, Vi.bdT, Vi.bdsN, Vi.bdNil, Vi.bdCons, Vi.Tg.js, Vi.partM, Vi.eq_int, Vi.eq_str, Vi.eq_bool, Vi.eq_ints, a2, a4, hu, h1.1, h1.2, hl2, olI]
      · have e2 : ((d ++ [x]).filter fun i => decide (1 ≤ up p q i ∧ up p q i ≤ most)).map (up p q) = (d.filter fun i => decide (1 ≤ up p q i ∧ up p q i ≤ most)).map (up p q) := by
          rw [List.filter_append, List.filter_cons_of_neg (by intro z; exact h1 (of_decide_eq_true z))]; simp
        rw [e2]
        generalize (d.filter fun i => decide (1 ≤ up p q i ∧ up p q i ≤ most)).map (up p q) = L at hl2 ⊢
        refine ⟨[some (.fz (.int p)), some (.fz (.int q)), some (.fz (.int most)), some (olI L), some (.fz (.int x)), t2], _, by simp -implicitDefEqProofs [Vi.bind_ok, Vi.bind_bad, Vi.bind_ex, Vi.so_ok, Vi.sb_nx, Vi.sb_ret, Vi.sb_bad, Vi.d_fz, Vi.d_olI, Vi.d_ol, Vi.o_some, Vi.tst_b, Vi.tst_i, Vi.tst_l, Vi.tst_s, Vi.tst_n, Vi.oB_some, Vi.oP_some, Vi.oL_some, Vi.rdV_fz, Vi.rdV_ol, Vi.rdV2_some, Vi.mvV_ol, Vi.mvV_fz, Vi.rdVar_c, Vi.ev_var, Vi.ev_mv, Vi.ev_int, Vi.ev_bl, Vi.ev_non, Vi.ev_str, Vi.ev_gi, Vi.ev_gs, Vi.ev_bin, Vi.ev_neg, Vi.ev_cmp, Vi.evT_cmp, Vi.ev_chain, Vi.ev_one, Vi.andK_b, Vi.orK_b, Vi.notK_b, Vi.ev_and, Vi.ev_or, Vi.ev_not, Vi.isB_b, Vi.ev_ite, Vi.ev_tup, Vi.ev_lst, Vi.ev_ix, Vi.ev_slc, Vi.evP_no, Vi.evP_yes, Vi.ev_call, Vi.calK_some, Vi.calR_ok, Vi.evA_nil, Vi.evA_e, Vi.evA_o, Vi.args_nil, Vi.args_e, Vi.args_o, Vi.argK_s, Vi.asm_nil, Vi.asm_e, Vi.asm_o, Vi.asmK_s, Vi.lent_ol, Vi.lent_sc, Vi.lent_fz, Vi.put_nil, Vi.put_e, Vi.put_o, Vi.ev_blt, Vi.ev_isi, Vi.ev_lsc, Vi.lscK_s, Vi.cmpK_ok, Vi.ev_lc, Vi.evC_no, Vi.evC_yes, Vi.evI_e, Vi.evI_r1, Vi.evI_r2, Vi.evs_nil, Vi.evs_cons, Vi.evO_nil, Vi.evO_cons, Vi.olO_s, Vi.olOf_c, Vi.appK_s, Vi.appK2_s, Vi.ev_app, Vi.bwK_ok, Vi.ev_bw, Vi.bwK'_ok, Vi.evT_bw, Vi.evT_chain, Vi.evT_one, Vi.evT_and, Vi.evT_or, Vi.evT_not, Vi.evT_var, Vi.evT_call, Vi.evT_isi, Vi.evT_blt, Vi.evT_ix, Vi.evT_bin, Vi.evT_bl, Vi.ex_pass, Vi.ex_asg, Vi.ex_expr, Vi.ex_ret, Vi.ex_retN, Vi.ex_if, Vi.ex_for, Vi.setK_s, Vi.setK2_s, Vi.setK3_s, Vi.ex_set, Vi.ex_aug, Vi.ex_augS, Vi.augM, Vi.augSM, Vi.exs_nil, Vi.exs_cons, Vi.run_b, Vi.runK_ret, Vi.runK_nx, Vi.frzE_nil, Vi.frz_cons, Vi.frzK_ol, Vi.frzK2_s, Vi.frzK_fz, Vi.frzK_no, Vi.frzK_olI, Vi.rdV_olI, Vi.mvV_olI, Vi.olO_olI, Vi.lent_olI, Vi.closed_olI, Vi.dOf_fz, Vi.dOf_olI, Vi.dOf_olI', Vi.dsOf_fz, Vi.dsOf_ints, Vi.dsOf_nil, Vi.dsOf_cons, Option.map_some, Vi.binD, Vi.add_int, Vi.sub_int, Vi.cmpD, Vi.lt_int, Vi.le_int, Vi.gt_int, Vi.ge_int, Vi.neg_int, Vi.bf_len_l, Vi.bf_len_t, Vi.bf_len_s, Vi.bf_abs, Vi.bf_int, Vi.bf_intb, Vi.bf_max2, Vi.bf_min2, Vi.bf_list_l, Vi.bf_list_t, Vi.bf_tup_l, Vi.bf_sum, Vi.ix_l, Vi.ix_t, Vi.ix_s, Vi.isiD, Vi.chain2, Vi.iop_add, Vi.iop_sub, Vi.it_l, Vi.it_t, Vi.it_s, Vi.lentOk, Vi.outs_nil, Vi.outs_fz, Vi.outs_c, List.tail_cons, Vi.killE, Vi.noOwn, Vi.closed, Vi.closeds, Vi.closedD, Vi.closeds_ints, Vi.wipeE, Vi.resE, Vi.bd_nm, Vi.bd_tp, Vi.bdN, Vi.bdT, Vi.bdsN, Vi.bdNil, Vi.bdCons, Vi.Tg.js, Vi.partM, Vi.eq_int, Vi.eq_str, Vi.eq_bool, Vi.eq_ints], ?_, some (.fz (.int x)), some (.fz (.int (up p q x))), rfl⟩
        by_cases h2 : 1 ≤ up p q x
        · have h3 : ¬ up p q x ≤ most := fun z => h1 ⟨h2, z⟩
          simp -implicitDefEqProofs [b__law_below_1, b__law_below_2, Vi.bind_ok, Vi.bind_bad, Vi.bind_ex, Vi.so_ok, Vi.sb_nx, Vi.sb_ret, Vi.sb_bad, Vi.d_fz, Vi.d_olI, Vi.d_ol, Vi.o_some, Vi.tst_b, Vi.tst_i, Vi.tst_l, Vi.tst_s, Vi.tst_n, Vi.oB_some, Vi.oP_some, Vi.oL_some, Vi.rdV_fz, Vi.rdV_ol, Vi.rdV2_some, Vi.mvV_ol, Vi.mvV_fz, Vi.rdVar_c, Vi.ev_var, Vi.ev_mv, Vi.ev_int, Vi.ev_bl, Vi.ev_non, Vi.ev_str, Vi.ev_gi, Vi.ev_gs, Vi.ev_bin, Vi.ev_neg, Vi.ev_cmp, Vi.evT_cmp, Vi.ev_chain, Vi.ev_one, Vi.andK_b, Vi.orK_b, Vi.notK_b, Vi.ev_and, Vi.ev_or, Vi.ev_not, Vi.isB_b, Vi.ev_ite, Vi.ev_tup, Vi.ev_lst, Vi.ev_ix, Vi.ev_slc, Vi.evP_no, Vi.evP_yes, Vi.ev_call, Vi.calK_some, Vi.calR_ok, Vi.evA_nil, Vi.evA_e, Vi.evA_o, Vi.args_nil, Vi.args_e, Vi.args_o, Vi.argK_s, Vi.asm_nil, Vi.asm_e, Vi.asm_o, Vi.asmK_s, Vi.lent_ol, Vi.lent_sc, Vi.lent_fz, Vi.put_nil, Vi.put_e, Vi.put_o, Vi.ev_blt, Vi.ev_isi, Vi.ev_lsc, Vi.lscK_s, Vi.cmpK_ok, Vi.ev_lc, Vi.evC_no, Vi.evC_yes, Vi.evI_e, Vi.evI_r1, Vi.evI_r2, Vi.evs_nil, Vi.evs_cons, Vi.evO_nil, Vi.evO_cons, Vi.olO_s, Vi.olOf_c, Vi.appK_s, Vi.appK2_s, Vi.ev_app, Vi.bwK_ok, Vi.ev_bw, Vi.bwK'_ok, Vi.evT_bw, Vi.evT_chain, Vi.evT_one, Vi.evT_and, Vi.evT_or, Vi.evT_not, Vi.evT_var, Vi.evT_call, Vi.evT_isi, Vi.evT_blt, Vi.evT_ix, Vi.evT_bin, Vi.evT_bl, Vi.ex_pass, Vi.ex_asg, Vi.ex_expr, Vi.ex_ret, Vi.ex_retN, Vi.ex_if, Vi.ex_for, Vi.setK_s, Vi.setK2_s, Vi.setK3_s, Vi.ex_set, Vi.ex_aug, Vi.ex_augS, Vi.augM, Vi.augSM, Vi.exs_nil, Vi.exs_cons, Vi.run_b, Vi.runK_ret, Vi.runK_nx, Vi.frzE_nil, Vi.frz_cons, Vi.frzK_ol, Vi.frzK2_s, Vi.frzK_fz, Vi.frzK_no, Vi.frzK_olI, Vi.rdV_olI, Vi.mvV_olI, Vi.olO_olI, Vi.lent_olI, Vi.closed_olI, Vi.dOf_fz, Vi.dOf_olI, Vi.dOf_olI', Vi.dsOf_fz, Vi.dsOf_ints, Vi.dsOf_nil, Vi.dsOf_cons, Option.map_some, Vi.binD, Vi.add_int, Vi.sub_int, Vi.cmpD, Vi.lt_int, Vi.le_int, Vi.gt_int, Vi.ge_int, Vi.neg_int, Vi.bf_len_l, Vi.bf_len_t, Vi.bf_len_s, Vi.bf_abs, Vi.bf_int, Vi.bf_intb, Vi.bf_max2, Vi.bf_min2, Vi.bf_list_l, Vi.bf_list_t, Vi.bf_tup_l, Vi.bf_sum, Vi.ix_l, Vi.ix_t, Vi.ix_s, Vi.isiD, Vi.chain2, Vi.iop_add, Vi.iop_sub, Vi.it_l, Vi.it_t, Vi.it_s, Vi.lentOk, Vi.outs_nil, Vi.outs_fz, Vi.outs_c, List.tail_cons, Vi.killE, Vi.noOwn, Vi.closed, Vi.closeds, Vi.closedD, Vi.closeds_ints, Vi.wipeE, Vi.resE, Vi.bd_nm, Vi.bd_tp, Vi.bdN, Vi.bdT, Vi.bdsN, Vi.bdNil, Vi.bdCons, Vi.Tg.js, Vi.partM, Vi.eq_int, Vi.eq_str, Vi.eq_bool, Vi.eq_ints, a2, a4, hu, h2, h3, olI]
        · simp -implicitDefEqProofs [b__law_below_1, b__law_below_2, Vi.bind_ok, Vi.bind_bad, Vi.bind_ex, Vi.so_ok, Vi.sb_nx, Vi.sb_ret, Vi.sb_bad, Vi.d_fz, Vi.d_olI, Vi.d_ol, Vi.o_some, Vi.tst_b, Vi.tst_i, Vi.tst_l, Vi.tst_s, Vi.tst_n, Vi.oB_some, Vi.oP_some, Vi.oL_some, Vi.rdV_fz, Vi.rdV_ol, Vi.rdV2_some, Vi.mvV_ol, Vi.mvV_fz, Vi.rdVar_c, Vi.ev_var, Vi.ev_mv, Vi.ev_int, Vi.ev_bl, Vi.ev_non, Vi.ev_str, Vi.ev_gi, Vi.ev_gs, Vi.ev_bin, Vi.ev_neg, Vi.ev_cmp, Vi.evT_cmp, Vi.ev_chain, Vi.ev_one, Vi.andK_b, Vi.orK_b, Vi.notK_b, Vi.ev_and, Vi.ev_or, Vi.ev_not, Vi.isB_b, Vi.ev_ite, Vi.ev_tup, Vi.ev_lst, Vi.ev_ix, Vi.ev_slc, Vi.evP_no, Vi.evP_yes, Vi.ev_call, Vi.calK_some, Vi.calR_ok, Vi.evA_nil, Vi.evA_e, Vi.evA_o, Vi.args_nil, Vi.args_e, Vi.args_o, Vi.argK_s, Vi.asm_nil, Vi.asm_e, Vi.asm_o, Vi.asmK_s, Vi.lent_ol, Vi.lent_sc, Vi.lent_fz, Vi.put_nil, Vi.put_e, Vi.put_o, Vi.ev_blt, Vi.ev_isi, Vi.ev_lsc, Vi.lscK_s, Vi.cmpK_ok, Vi.ev_lc, Vi.evC_no, Vi.evC_yes, Vi.evI_e, Vi.evI_r1, Vi.evI_r2, Vi.evs_nil, Vi.evs_cons, Vi.evO_nil, Vi.evO_cons, Vi.olO_s, Vi.olOf_c, Vi.appK_s, Vi.appK2_s, Vi.ev_app, Vi.bwK_ok, Vi.ev_bw, Vi.bwK'_ok, Vi.evT_bw, Vi.evT_chain, Vi.evT_one, Vi.evT_and, Vi.evT_or, Vi.evT_not, Vi.evT_var, Vi.evT_call, Vi.evT_isi, Vi.evT_blt, Vi.evT_ix, Vi.evT_bin, Vi.evT_bl, Vi.ex_pass, Vi.ex_asg, Vi.ex_expr, Vi.ex_ret, Vi.ex_retN, Vi.ex_if, Vi.ex_for, Vi.setK_s, Vi.setK2_s, Vi.setK3_s, Vi.ex_set, Vi.ex_aug, Vi.ex_augS, Vi.augM, Vi.augSM, Vi.exs_nil, Vi.exs_cons, Vi.run_b, Vi.runK_ret, Vi.runK_nx, Vi.frzE_nil, Vi.frz_cons, Vi.frzK_ol, Vi.frzK2_s, Vi.frzK_fz, Vi.frzK_no, Vi.frzK_olI, Vi.rdV_olI, Vi.mvV_olI, Vi.olO_olI, Vi.lent_olI, Vi.closed_olI, Vi.dOf_fz, Vi.dOf_olI, Vi.dOf_olI', Vi.dsOf_fz, Vi.dsOf_ints, Vi.dsOf_nil, Vi.dsOf_cons, Option.map_some, Vi.binD, Vi.add_int, Vi.sub_int, Vi.cmpD, Vi.lt_int, Vi.le_int, Vi.gt_int, Vi.ge_int, Vi.neg_int, Vi.bf_len_l, Vi.bf_len_t, Vi.bf_len_s, Vi.bf_abs, Vi.bf_int, Vi.bf_intb, Vi.bf_max2, Vi.bf_min2, Vi.bf_list_l, Vi.bf_list_t, Vi.bf_tup_l, Vi.bf_sum, Vi.ix_l, Vi.ix_t, Vi.ix_s, Vi.isiD, Vi.chain2, Vi.iop_add, Vi.iop_sub, Vi.it_l, Vi.it_t, Vi.it_s, Vi.lentOk, Vi.outs_nil, Vi.outs_fz, Vi.outs_c, List.tail_cons, Vi.killE, Vi.noOwn, Vi.closed, Vi.closeds, Vi.closedD, Vi.closeds_ints, Vi.wipeE, Vi.resE, Vi.bd_nm, Vi.bd_tp, Vi.bdN, Vi.bdT, Vi.bdsN, Vi.bdNil, Vi.bdCons, Vi.Tg.js, Vi.partM, Vi.eq_int, Vi.eq_str, Vi.eq_bool, Vi.eq_ints, a2, a4, hu, h2, olI])
  subst f2
  simp -implicitDefEqProofs [den__law_below, bod__law_below, b__law_below_0, b__law_below_3, b__law_below_4, Vi.bind_ok, Vi.bind_bad, Vi.bind_ex, Vi.so_ok, Vi.sb_nx, Vi.sb_ret, Vi.sb_bad, Vi.d_fz, Vi.d_olI, Vi.d_ol, Vi.o_some, Vi.tst_b, Vi.tst_i, Vi.tst_l, Vi.tst_s, Vi.tst_n, Vi.oB_some, Vi.oP_some, Vi.oL_some, Vi.rdV_fz, Vi.rdV_ol, Vi.rdV2_some, Vi.mvV_ol, Vi.mvV_fz, Vi.rdVar_c, Vi.ev_var, Vi.ev_mv, Vi.ev_int, Vi.ev_bl, Vi.ev_non, Vi.ev_str, Vi.ev_gi, Vi.ev_gs, Vi.ev_bin, Vi.ev_neg, Vi.ev_cmp, Vi.evT_cmp, Vi.ev_chain, Vi.ev_one, Vi.andK_b, Vi.orK_b, Vi.notK_b, Vi.ev_and, Vi.ev_or, Vi.ev_not, Vi.isB_b, Vi.ev_ite, Vi.ev_tup, Vi.ev_lst, Vi.ev_ix, Vi.ev_slc, Vi.evP_no, Vi.evP_yes, Vi.ev_call, Vi.calK_some, Vi.calR_ok, Vi.evA_nil, Vi.evA_e, Vi.evA_o, Vi.args_nil, Vi.args_e, Vi.args_o, Vi.argK_s, Vi.asm_nil, Vi.asm_e, Vi.asm_o, Vi.asmK_s, Vi.lent_ol, Vi.lent_sc, Vi.lent_fz, Vi.put_nil, Vi.put_e, Vi.put_o, Vi.ev_blt, Vi.ev_isi, Vi.ev_lsc, Vi.lscK_s, Vi.cmpK_ok, Vi.ev_lc, Vi.evC_no, Vi.evC_yes, Vi.evI_e, Vi.evI_r1, Vi.evI_r2, Vi.evs_nil, Vi.evs_cons, Vi.evO_nil, Vi.evO_cons, Vi.olO_s, Vi.olOf_c, Vi.appK_s, Vi.appK2_s, Vi.ev_app, Vi.bwK_ok, Vi.ev_bw, Vi.bwK'_ok, Vi.evT_bw, Vi.evT_chain, Vi.evT_one, Vi.evT_and, Vi.evT_or, Vi.evT_not, Vi.evT_var, Vi.evT_call, Vi.evT_isi, Vi.evT_blt, Vi.evT_ix, Vi.evT_bin, Vi.evT_bl, Vi.ex_pass, Vi.ex_asg, Vi.ex_expr, Vi.ex_ret, Vi.ex_retN, Vi.ex_if, Vi.ex_for, Vi.setK_s, Vi.setK2_s, Vi.setK3_s, Vi.ex_set, Vi.ex_aug, Vi.ex_augS, Vi.augM, Vi.augSM, Vi.exs_nil, Vi.exs_cons, Vi.run_b, Vi.runK_ret, Vi.runK_nx, Vi.frzE_nil, Vi.frz_cons, Vi.frzK_ol, Vi.frzK2_s, Vi.frzK_fz, Vi.frzK_no, Vi.frzK_olI, Vi.rdV_olI, Vi.mvV_olI, Vi.olO_olI, Vi.lent_olI, Vi.closed_olI, Vi.dOf_fz, Vi.dOf_olI, Vi.dOf_olI', Vi.dsOf_fz, Vi.dsOf_ints, Vi.dsOf_nil, Vi.dsOf_cons, Option.map_some, Vi.binD, Vi.add_int, Vi.sub_int, Vi.cmpD, Vi.lt_int, Vi.le_int, Vi.gt_int, Vi.ge_int, Vi.neg_int, Vi.bf_len_l, Vi.bf_len_t, Vi.bf_len_s, Vi.bf_abs, Vi.bf_int, Vi.bf_intb, Vi.bf_max2, Vi.bf_min2, Vi.bf_list_l, Vi.bf_list_t, Vi.bf_tup_l, Vi.bf_sum, Vi.ix_l, Vi.ix_t, Vi.ix_s, Vi.isiD, Vi.chain2, Vi.iop_add, Vi.iop_sub, Vi.it_l, Vi.it_t, Vi.it_s, Vi.lentOk, Vi.outs_nil, Vi.outs_fz, Vi.outs_c, List.tail_cons, Vi.killE, Vi.noOwn, Vi.closed, Vi.closeds, Vi.closedD, Vi.closeds_ints, Vi.wipeE, Vi.resE, Vi.bd_nm, Vi.bd_tp, Vi.bdN, Vi.bdT, Vi.bdsN, Vi.bdNil, Vi.bdCons, Vi.Tg.js, Vi.partM, Vi.eq_int, Vi.eq_str, Vi.eq_bool, Vi.eq_ints, a1, a3, r, f1, olI, below]
/-- the numbers of a rising list rise -/
theorem rises {l : List Int} (h : l.Pairwise (· < ·)) : (rgI 1 (l.length : Int)).filter (fun k => match atI (l.map PyData.int) (k - 1), atI (l.map PyData.int) k with
    | some (.int a), some (.int b) => decide (b ≤ a)
    | _, _ => false) = [] := by
  rw [List.filter_eq_nil_iff]
  intro k hk
  rw [mem_rgI] at hk
  obtain ⟨j, rfl⟩ : ∃ j : Nat, k = (j : Int) + 1 := ⟨(k - 1).toNat, by omega⟩
  have h1 : j < l.length := by omega
  have h2 : j + 1 < l.length := by omega
  have e1 : (j : Int) + 1 - 1 = (j : Int) := by omega
  have e2 : (j : Int) + 1 = ((j + 1 : Nat) : Int) := by omega
  rw [e1, e2, Vi.atI_nat, Vi.atI_nat]
  have := List.pairwise_iff_getElem.mp h j (j + 1) h1 h2 (by omega)
  simp [h1, h2]
  omega
theorem ok_right (hp : 0 < p) (hp2 : p < 2 ^ 20) (hq : 0 < q) (hpq : q ≤ p) (hm : 0 ≤ most) (hm2 : most < 2 ^ 20) : den__law_right (I3 p q most) = .ok (.fz (.bool true)) N3 := by
  have r1 := ok_down hp hp2 hq hpq hm hm2
  have r2 := ok_below hp hp2 hq hpq hm hm2
  have r3 := ok_row (most := most) hp (by omega) hq (by omega) hm hm2
  have r4 := ok_rowB (most := most) hp (by omega) hq (by omega) hm hm2
  rw [row_eq hq hpq] at r3
  rw [rowB_eq hq hpq] at r4
  have l1 := down_len (p := p) (q := q) (most := most) hq hpq hm
  have l2 := below_len (p := p) (q := q) (most := most) hq hpq hm
  have sd := down_sorted (p := p) (q := q) (most := most) hq hpq
  have a1 : ∀ a, mulD (.int a) (.int q) = some (.fz (.int (a * q))) := fun a => mul_r (by omega)
  have a3 : ∀ a, fdivD (.int a) (.int p) = some (.fz (.int (a / p))) := fun a => div_e hp (by omega)
  have b1 := div_le (most := most + 1) (by omega) hp hpq
  have b2 := div_nn (most := most + 1) (by omega) hp hq
  have n1 : ((down p q most).length : Int) ≤ most + 1 := by
    rw [l1]
    have : ((most + 1) * q + p - 1) / p ≤ most + 2 := by
      refine Int.ediv_le_of_le_mul hp ?_
      have := Int.mul_le_mul_of_nonneg_left hpq (show 0 ≤ most + 1 by omega)
      have e : (most + 2) * p = (most + 1) * p + p := by rw [show most + 2 = (most + 1) + 1 by omega, Int.add_mul (most + 1) 1, Int.one_mul]
      omega
    omega
  have n2 : ((below p q most).length : Int) ≤ most + 1 := by rw [l2]; split <;> omega
  generalize down p q most = D at *
  generalize below p q most = B at *
  have s1 : D.length < sizeLine := by rw [sizeL]; omega
  have s2 : B.length < sizeLine := by rw [sizeL]; omega
  have t1 := ok_told (a := D) (b := D)
  have t2 := ok_told (a := B) (b := B)
  have rr : rngD [.int 1, .int (D.length : Int)] = some ((rgI 1 (D.length : Int)).map .int) := by rw [← rngL_eq]; exact rng_2 (by omega) (by omega) (by omega)
  have c : compL (bdG (.nm 7)) (evC rho__law_right (.yes (.cmp .GtE (.ix (.var 3) (.bin .Sub (.var 7) (.int 1))) (.ix (.var 3) (.var 7))))) (fun env => (ev rho__law_right (.var 7) env).d) [7] ((rgI 1 (D.length : Int)).map .int)
      [some (.fz (.int p)), some (.fz (.int q)), some (.fz (.int most)), some (.fz (.list (D.map .int))), some (olI B), some (olI D), some (olI B), none] = .ok [] [some (.fz (.int p)), some (.fz (.int q)), some (.fz (.int most)), some (.fz (.list (D.map .int))), some (olI B), some (olI D), some (olI B), none] := by
    rw [show ([] : List PyData) = ((rgI 1 (D.length : Int)).filter (fun k => match atI (D.map PyData.int) (k - 1), atI (D.map PyData.int) k with
      | some (.int a), some (.int b) => decide (b ≤ a)
      | _, _ => false)).map .int by rw [rises sd]; rfl]
    refine compL_fm _ PyData.int _ fun x hx => ⟨_, [some (.fz (.int p)), some (.fz (.int q)), some (.fz (.int most)), some (.fz (.list (D.map .int))), some (olI B), some (olI D), some (olI B), some (.fz (.int x))], by simp -implicitDefEqProofs [Vi.bind_ok, Vi.bind_bad, Vi.bind_ex, Vi.so_ok, Vi.sb_nx, Vi.sb_ret, Vi.sb_bad, Vi.d_fz, Vi.d_olI, Vi.d_ol, Vi.o_some, Vi.tst_b, Vi.tst_i, Vi.tst_l, Vi.tst_s, Vi.tst_n, Vi.oB_some, Vi.oP_some, Vi.oL_some, Vi.rdV_fz, Vi.rdV_ol, Vi.rdV2_some, Vi.mvV_ol, Vi.mvV_fz, Vi.rdVar_c, Vi.ev_var, Vi.ev_mv, Vi.ev_int, Vi.ev_bl, Vi.ev_non, Vi.ev_str, Vi.ev_gi, Vi.ev_gs, Vi.ev_bin, Vi.ev_neg, Vi.ev_cmp, Vi.evT_cmp, Vi.ev_chain, Vi.ev_one, Vi.andK_b, Vi.orK_b, Vi.notK_b, Vi.ev_and, Vi.ev_or, Vi.ev_not, Vi.isB_b, Vi.ev_ite, Vi.ev_tup, Vi.ev_lst, Vi.ev_ix, Vi.ev_slc, Vi.evP_no, Vi.evP_yes, Vi.ev_call, Vi.calK_some, Vi.calR_ok, Vi.evA_nil, Vi.evA_e, Vi.evA_o, Vi.args_nil, Vi.args_e, Vi.args_o, Vi.argK_s, Vi.asm_nil, Vi.asm_e, Vi.asm_o, Vi.asmK_s, Vi.lent_ol, Vi.lent_sc, Vi.lent_fz, Vi.put_nil, Vi.put_e, Vi.put_o, Vi.ev_blt, Vi.ev_isi, Vi.ev_lsc, Vi.lscK_s, Vi.cmpK_ok, Vi.ev_lc, Vi.evC_no, Vi.evC_yes, Vi.evI_e, Vi.evI_r1, Vi.evI_r2, Vi.evs_nil, Vi.evs_cons, Vi.evO_nil, Vi.evO_cons, Vi.olO_s, Vi.olOf_c, Vi.appK_s, Vi.appK2_s, Vi.ev_app, Vi.bwK_ok, Vi.ev_bw, Vi.bwK'_ok, Vi.evT_bw, Vi.evT_chain, Vi.evT_one, Vi.evT_and, Vi.evT_or, Vi.evT_not, Vi.evT_var, Vi.evT_call, Vi.evT_isi, Vi.evT_blt, Vi.evT_ix, Vi.evT_bin, Vi.evT_bl, Vi.ex_pass, Vi.ex_asg, Vi.ex_expr, Vi.ex_ret, Vi.ex_retN, Vi.ex_if, Vi.ex_for, Vi.setK_s, Vi.setK2_s, Vi.setK3_s, Vi.ex_set, Vi.ex_aug, Vi.ex_augS, Vi.augM, Vi.augSM, Vi.exs_nil, Vi.exs_cons, Vi.run_b, Vi.runK_ret, Vi.runK_nx, Vi.frzE_nil, Vi.frz_cons, Vi.frzK_ol, Vi.frzK2_s, Vi.frzK_fz, Vi.frzK_no, Vi.frzK_olI, Vi.rdV_olI, Vi.mvV_olI, Vi.olO_olI, Vi.lent_olI, Vi.closed_olI, Vi.dOf_fz, Vi.dOf_olI, Vi.dOf_olI', Vi.dsOf_fz, Vi.dsOf_ints, Vi.dsOf_nil, Vi.dsOf_cons, Option.map_some, Vi.binD, Vi.add_int, Vi.sub_int, Vi.cmpD, Vi.lt_int, Vi.le_int, Vi.gt_int, Vi.ge_int, Vi.neg_int, Vi.bf_len_l, Vi.bf_len_t, Vi.bf_len_s, Vi.bf_abs, Vi.bf_int, Vi.bf_intb, Vi.bf_max2, Vi.bf_min2, Vi.bf_list_l, Vi.bf_list_t, Vi.bf_tup_l, Vi.bf_sum, Vi.ix_l, Vi.ix_t, Vi.ix_s, Vi.isiD, Vi.chain2, Vi.iop_add, Vi.iop_sub, Vi.it_l, Vi.it_t, Vi.it_s, Vi.lentOk, Vi.outs_nil, Vi.outs_fz, Vi.outs_c, List.tail_cons, Vi.killE, Vi.noOwn, Vi.closed, Vi.closeds, Vi.closedD, Vi.closeds_ints, Vi.wipeE, Vi.resE, Vi.bd_nm, Vi.bd_tp, Vi.bdN, Vi.bdT, Vi.bdsN, Vi.bdNil, Vi.bdCons, Vi.Tg.js, Vi.partM, Vi.eq_int, Vi.eq_str, Vi.eq_bool, Vi.eq_ints]; rfl, ?_, ?_⟩
    · rw [mem_rgI] at hx
      obtain ⟨j, rfl⟩ : ∃ j : Nat, x = (j : Int) + 1 := ⟨(x - 1).toNat, by omega⟩
      have h1 : j < D.length := by omega
      have h2 : j + 1 < D.length := by omega
      have e1 : (j : Int) + 1 - 1 = (j : Int) := by omega
      have e2 : (j : Int) + 1 = ((j + 1 : Nat) : Int) := by omega
      have g1 : atI (D.map PyData.int) ((j : Int) + 1 - 1) = some (.int D[j]) := by rw [e1, Vi.atI_nat]; simp [h1]
      have g2 : atI (D.map PyData.int) ((j : Int) + 1) = some (.int D[j + 1]) := by rw [e2, Vi.atI_nat]; simp [h2]
      rw [g1, g2]
      simp only [evC_yes, Vi.bind_ok, Vi.bind_bad, Vi.bind_ex, Vi.so_ok, Vi.sb_nx, Vi.sb_ret, Vi.sb_bad, Vi.d_fz, Vi.d_olI, Vi.d_ol, Vi.o_some, Vi.tst_b, Vi.tst_i, Vi.tst_l, Vi.tst_s, Vi.tst_n, Vi.oB_some, Vi.oP_some, Vi.oL_some, Vi.rdV_fz, Vi.rdV_ol, Vi.rdV2_some, Vi.mvV_ol, Vi.mvV_fz, Vi.rdVar_c, Vi.ev_var, Vi.ev_mv, Vi.ev_int, Vi.ev_bl, Vi.ev_non, Vi.ev_str, Vi.ev_gi, Vi.ev_gs, Vi.ev_bin, Vi.ev_neg, Vi.ev_cmp, Vi.evT_cmp, Vi.ev_chain, Vi.ev_one, Vi.andK_b, Vi.orK_b, Vi.notK_b, Vi.ev_and, Vi.ev_or, Vi.ev_not, Vi.isB_b, Vi.ev_ite, Vi.ev_tup, Vi.ev_lst, Vi.ev_ix, Vi.ev_slc, Vi.evP_no, Vi.evP_yes, Vi.ev_call, Vi.calK_some, Vi.calR_ok, Vi.evA_nil, Vi.evA_e, Vi.evA_o, Vi.args_nil, Vi.args_e, Vi.args_o, Vi.argK_s, Vi.asm_nil, Vi.asm_e, Vi.asm_o, Vi.asmK_s, Vi.lent_ol, Vi.lent_sc, Vi.lent_fz, Vi.put_nil, Vi.put_e, Vi.put_o, Vi.ev_blt, Vi.ev_isi, Vi.ev_lsc, Vi.lscK_s, Vi.cmpK_ok, Vi.ev_lc, Vi.evC_no, Vi.evC_yes, Vi.evI_e, Vi.evI_r1, Vi.evI_r2, Vi.evs_nil, Vi.evs_cons, Vi.evO_nil, Vi.evO_cons, Vi.olO_s, Vi.olOf_c, Vi.appK_s, Vi.appK2_s, Vi.ev_app, Vi.bwK_ok, Vi.ev_bw, Vi.bwK'_ok, Vi.evT_bw, Vi.evT_chain, Vi.evT_one, Vi.evT_and, Vi.evT_or, Vi.evT_not, Vi.evT_var, Vi.evT_call, Vi.evT_isi, Vi.evT_blt, Vi.evT_ix, Vi.evT_bin, Vi.evT_bl, Vi.ex_pass, Vi.ex_asg, Vi.ex_expr, Vi.ex_ret, Vi.ex_retN, Vi.ex_if, Vi.ex_for, Vi.setK_s, Vi.setK2_s, Vi.setK3_s, Vi.ex_set, Vi.ex_aug, Vi.ex_augS, Vi.augM, Vi.augSM, Vi.exs_nil, Vi.exs_cons, Vi.run_b, Vi.runK_ret, Vi.runK_nx, Vi.frzE_nil, Vi.frz_cons, Vi.frzK_ol, Vi.frzK2_s, Vi.frzK_fz, Vi.frzK_no, Vi.frzK_olI, Vi.rdV_olI, Vi.mvV_olI, Vi.olO_olI, Vi.lent_olI, Vi.closed_olI, Vi.dOf_fz, Vi.dOf_olI, Vi.dOf_olI', Vi.dsOf_fz, Vi.dsOf_ints, Vi.dsOf_nil, Vi.dsOf_cons, Option.map_some, Vi.binD, Vi.add_int, Vi.sub_int, Vi.cmpD, Vi.lt_int, Vi.le_int, Vi.gt_int, Vi.ge_int, Vi.neg_int, Vi.bf_len_l, Vi.bf_len_t, Vi.bf_len_s, Vi.bf_abs, Vi.bf_int, Vi.bf_intb, Vi.bf_max2, Vi.bf_min2, Vi.bf_list_l, Vi.bf_list_t, Vi.bf_tup_l, Vi.bf_sum, Vi.ix_l, Vi.ix_t, Vi.ix_s, Vi.isiD, Vi.chain2, Vi.iop_add, Vi.iop_sub, Vi.it_l, Vi.it_t, Vi.it_s, Vi.lentOk, Vi.outs_nil, Vi.outs_fz, Vi.outs_c, List.tail_cons, Vi.killE, Vi.noOwn, Vi.closed, Vi.closeds, Vi.closedD, Vi.closeds_ints, Vi.wipeE, Vi.resE, Vi.bd_nm, Vi.bd_tp, Vi.bdN, Vi.bdT, Vi.bdsN, Vi.bdNil, Vi.bdCons, Vi.Tg.js, Vi.partM, Vi.eq_int, Vi.eq_str, Vi.eq_bool, Vi.eq_ints, List.getElem?_cons_succ, List.getElem?_cons_zero, g1, g2]
    · simp -implicitDefEqProofs [Vi.bind_ok, Vi.bind_bad, Vi.bind_ex, Vi.so_ok, Vi.sb_nx, Vi.sb_ret, Vi.sb_bad, Vi.d_fz, Vi.d_olI, Vi.d_ol, Vi.o_some, Vi.tst_b, Vi.tst_i, Vi.tst_l, Vi.tst_s, Vi.tst_n, Vi.oB_some, Vi.oP_some, Vi.oL_some, Vi.rdV_fz, Vi.rdV_ol, Vi.rdV2_some, Vi.mvV_ol, Vi.mvV_fz, Vi.rdVar_c, Vi.ev_var, Vi.ev_mv, Vi.ev_int, Vi.ev_bl, Vi.ev_non, Vi.ev_str, Vi.ev_gi, Vi.ev_gs, Vi.ev_bin, Vi.ev_neg, Vi.ev_cmp, Vi.evT_cmp, Vi.ev_chain, Vi.ev_one, Vi.andK_b, Vi.orK_b, Vi.notK_b, Vi.ev_and, Vi.ev_or, Vi.ev_not, Vi.isB_b, Vi.ev_ite, Vi.ev_tup, Vi.ev_lst, Vi.ev_ix, Vi.ev_slc, Vi.evP_no, Vi.evP_yes, Vi.ev_call, Vi.calK_some, Vi.calR_ok, Vi.evA_nil, Vi.evA_e, Vi.evA_o, Vi.args_nil, Vi.args_e, Vi.args_o, Vi.argK_s, Vi.asm_nil, Vi.asm_e, Vi.asm_o, Vi.asmK_s, Vi.lent_ol, Vi.lent_sc, Vi.lent_fz, Vi.put_nil, Vi.put_e, Vi.put_o, Vi.ev_blt, Vi.ev_isi, Vi.ev_lsc, Vi.lscK_s, Vi.cmpK_ok, Vi.ev_lc, Vi.evC_no, Vi.evC_yes, Vi.evI_e, Vi.evI_r1, Vi.evI_r2, Vi.evs_nil, Vi.evs_cons, Vi.evO_nil, Vi.evO_cons, Vi.olO_s, Vi.olOf_c, Vi.appK_s, Vi.appK2_s, Vi.ev_app, Vi.bwK_ok, Vi.ev_bw, Vi.bwK'_ok, Vi.evT_bw, Vi.evT_chain, Vi.evT_one, Vi.evT_and, Vi.evT_or, Vi.evT_not, Vi.evT_var, Vi.evT_call, Vi.evT_isi, Vi.evT_blt, Vi.evT_ix, Vi.evT_bin, Vi.evT_bl, Vi.ex_pass, Vi.ex_asg, Vi.ex_expr, Vi.ex_ret, Vi.ex_retN, Vi.ex_if, Vi.ex_for, Vi.setK_s, Vi.setK2_s, Vi.setK3_s, Vi.ex_set, Vi.ex_aug, Vi.ex_augS, Vi.augM, Vi.augSM, Vi.exs_nil, Vi.exs_cons, Vi.run_b, Vi.runK_ret, Vi.runK_nx, Vi.frzE_nil, Vi.frz_cons, Vi.frzK_ol, Vi.frzK2_s, Vi.frzK_fz, Vi.frzK_no, Vi.frzK_olI, Vi.rdV_olI, Vi.mvV_olI, Vi.olO_olI, Vi.lent_olI, Vi.closed_olI, Vi.dOf_fz, Vi.dOf_olI, Vi.dOf_olI', Vi.dsOf_fz, Vi.dsOf_ints, Vi.dsOf_nil, Vi.dsOf_cons, Option.map_some, Vi.binD, Vi.add_int, Vi.sub_int, Vi.cmpD, Vi.lt_int, Vi.le_int, Vi.gt_int, Vi.ge_int, Vi.neg_int, Vi.bf_len_l, Vi.bf_len_t, Vi.bf_len_s, Vi.bf_abs, Vi.bf_int, Vi.bf_intb, Vi.bf_max2, Vi.bf_min2, Vi.bf_list_l, Vi.bf_list_t, Vi.bf_tup_l, Vi.bf_sum, Vi.ix_l, Vi.ix_t, Vi.ix_s, Vi.isiD, Vi.chain2, Vi.iop_add, Vi.iop_sub, Vi.it_l, Vi.it_t, Vi.it_s, Vi.lentOk, Vi.outs_nil, Vi.outs_fz, Vi.outs_c, List.tail_cons, Vi.killE, Vi.noOwn, Vi.closed, Vi.closeds, Vi.closedD, Vi.closeds_ints, Vi.wipeE, Vi.resE, Vi.bd_nm, Vi.bd_tp, Vi.bdN, Vi.bdT, Vi.bdsN, Vi.bdNil, Vi.bdCons, Vi.Tg.js, Vi.partM, Vi.eq_int, Vi.eq_str, Vi.eq_bool, Vi.eq_ints]
  have e0 : ∃ env, exs rho__law_right [] b__law_right_2 [some (.fz (.int p)), some (.fz (.int q)), some (.fz (.int most)), some (.fz (.list (D.map .int))), some (.fz (.list (B.map .int))), some (olI D), some (olI B), none] = .ret (.fz (.bool true)) env := by
    simp -implicitDefEqProofs [b__law_right_0, b__law_right_1, b__law_right_2, Vi.bind_ok, Vi.bind_bad, Vi.bind_ex, Vi.so_ok, Vi.sb_nx, Vi.sb_ret, Vi.sb_bad, Vi.d_fz, Vi.d_olI, Vi.d_ol, Vi.o_some, Vi.tst_b, Vi.tst_i, Vi.tst_l, Vi.tst_s, Vi.tst_n, Vi.oB_some, Vi.oP_some, Vi.oL_some, Vi.rdV_fz, Vi.rdV_ol, Vi.rdV2_some, Vi.mvV_ol, Vi.mvV_fz, Vi.rdVar_c, Vi.ev_var, Vi.ev_mv, Vi.ev_int, Vi.ev_bl, Vi.ev_non, Vi.ev_str, Vi.ev_gi, Vi.ev_gs, Vi.ev_bin, Vi.ev_neg, Vi.ev_cmp, Vi.evT_cmp, Vi.ev_chain, Vi.ev_one, Vi.andK_b, Vi.orK_b, Vi.notK_b, Vi.ev_and, Vi.ev_or, Vi.ev_not, Vi.isB_b, Vi.ev_ite, Vi.ev_tup, Vi.ev_lst, Vi.ev_ix, Vi.ev_slc, Vi.evP_no, Vi.evP_yes, Vi.ev_call, Vi.calK_some, Vi.calR_ok, Vi.evA_nil, Vi.evA_e, Vi.evA_o, Vi.args_nil, Vi.args_e, Vi.args_o, Vi.argK_s, Vi.asm_nil, Vi.asm_e, Vi.asm_o, Vi.asmK_s, Vi.lent_ol, Vi.lent_sc, Vi.lent_fz, Vi.put_nil, Vi.put_e, Vi.put_o, Vi.ev_blt, Vi.ev_isi, Vi.ev_lsc, Vi.lscK_s, Vi.cmpK_ok, Vi.ev_lc, Vi.evC_no, Vi.evC_yes, Vi.evI_e, Vi.evI_r1, Vi.evI_r2, Vi.evs_nil, Vi.evs_cons, Vi.evO_nil, Vi.evO_cons, Vi.olO_s, Vi.olOf_c, Vi.appK_s, Vi.appK2_s, Vi.ev_app, Vi.bwK_ok, Vi.ev_bw, Vi.bwK'_ok, Vi.evT_bw, Vi.evT_chain, Vi.evT_one, Vi.evT_and, Vi.evT_or, Vi.evT_not, Vi.evT_var, Vi.evT_call, Vi.evT_isi, Vi.evT_blt, Vi.evT_ix, Vi.evT_bin, Vi.evT_bl, Vi.ex_pass, Vi.ex_asg, Vi.ex_expr, Vi.ex_ret, Vi.ex_retN, Vi.ex_if, Vi.ex_for, Vi.setK_s, Vi.setK2_s, Vi.setK3_s, Vi.ex_set, Vi.ex_aug, Vi.ex_augS, Vi.augM, Vi.augSM, Vi.exs_nil, Vi.exs_cons, Vi.run_b, Vi.runK_ret, Vi.runK_nx, Vi.frzE_nil, Vi.frz_cons, Vi.frzK_ol, Vi.frzK2_s, Vi.frzK_fz, Vi.frzK_no, Vi.frzK_olI, Vi.rdV_olI, Vi.mvV_olI, Vi.olO_olI, Vi.lent_olI, Vi.closed_olI, Vi.dOf_fz, Vi.dOf_olI, Vi.dOf_olI', Vi.dsOf_fz, Vi.dsOf_ints, Vi.dsOf_nil, Vi.dsOf_cons, Option.map_some, Vi.binD, Vi.add_int, Vi.sub_int, Vi.cmpD, Vi.lt_int, Vi.le_int, Vi.gt_int, Vi.ge_int, Vi.neg_int, Vi.bf_len_l, Vi.bf_len_t, Vi.bf_len_s, Vi.bf_abs, Vi.bf_int, Vi.bf_intb, Vi.bf_max2, Vi.bf_min2, Vi.bf_list_l, Vi.bf_list_t, Vi.bf_tup_l, Vi.bf_sum, Vi.ix_l, Vi.ix_t, Vi.ix_s, Vi.isiD, Vi.chain2, Vi.iop_add, Vi.iop_sub, Vi.it_l, Vi.it_t, Vi.it_s, Vi.lentOk, Vi.outs_nil, Vi.outs_fz, Vi.outs_c, List.tail_cons, Vi.killE, Vi.noOwn, Vi.closed, Vi.closeds, Vi.closedD, Vi.closeds_ints, Vi.wipeE, Vi.resE, Vi.bd_nm, Vi.bd_tp, Vi.bdN, Vi.bdT, Vi.bdsN, Vi.bdNil, Vi.bdCons, Vi.Tg.js, Vi.partM, Vi.eq_int, Vi.eq_str, Vi.eq_bool, Vi.eq_ints, rho__law_right, r3, r4, s1, s2]
  obtain ⟨env, e0⟩ := e0
  have e1 : exs rho__law_right [] b__law_right_3 [some (.fz (.int p)), some (.fz (.int q)), some (.fz (.int most)), some (.fz (.list (D.map .int))), some (olI B), some (olI D), some (olI B), none] = .ret (.fz (.bool true)) env := by
    simp -implicitDefEqProofs [b__law_right_3, Vi.bind_ok, Vi.bind_bad, Vi.bind_ex, Vi.so_ok, Vi.sb_nx, Vi.sb_ret, Vi.sb_bad, Vi.d_fz, Vi.d_olI, Vi.d_ol, Vi.o_some, Vi.tst_b, Vi.tst_i, Vi.tst_l, Vi.tst_s, Vi.tst_n, Vi.oB_some, Vi.oP_some, Vi.oL_some, Vi.rdV_fz, Vi.rdV_ol, Vi.rdV2_some, Vi.mvV_ol, Vi.mvV_fz, Vi.rdVar_c, Vi.ev_var, Vi.ev_mv, Vi.ev_int, Vi.ev_bl, Vi.ev_non, Vi.ev_str, Vi.ev_gi, Vi.ev_gs, Vi.ev_bin, Vi.ev_neg, Vi.ev_cmp, Vi.evT_cmp, Vi.ev_chain, Vi.ev_one, Vi.andK_b, Vi.orK_b, Vi.notK_b, Vi.ev_and, Vi.ev_or, Vi.ev_not, Vi.isB_b, Vi.ev_ite, Vi.ev_tup, Vi.ev_lst, Vi.ev_ix, Vi.ev_slc, Vi.evP_no, Vi.evP_yes, Vi.ev_call, Vi.calK_some, Vi.calR_ok, Vi.evA_nil, Vi.evA_e, Vi.evA_o, Vi.args_nil, Vi.args_e, Vi.args_o, Vi.argK_s, Vi.asm_nil, Vi.asm_e, Vi.asm_o, Vi.asmK_s, Vi.lent_ol, Vi.lent_sc, Vi.lent_fz, Vi.put_nil, Vi.put_e, Vi.put_o, Vi.ev_blt, Vi.ev_isi, Vi.ev_lsc, Vi.lscK_s, Vi.cmpK_ok, Vi.ev_lc, Vi.evC_no, Vi.evC_yes, Vi.evI_e, Vi.evI_r1, Vi.evI_r2, Vi.evs_nil, Vi.evs_cons, Vi.evO_nil, Vi.evO_cons, Vi.olO_s, Vi.olOf_c, Vi.appK_s, Vi.appK2_s, Vi.ev_app, Vi.bwK_ok, Vi.ev_bw, Vi.bwK'_ok, Vi.evT_bw, Vi.evT_chain, Vi.evT_one, Vi.evT_and, Vi.evT_or, Vi.evT_not, Vi.evT_var, Vi.evT_call, Vi.evT_isi, Vi.evT_blt, Vi.evT_ix, Vi.evT_bin, Vi.evT_bl, Vi.ex_pass, Vi.ex_asg, Vi.ex_expr, Vi.ex_ret, Vi.ex_retN, Vi.ex_if, Vi.ex_for, Vi.setK_s, Vi.setK2_s, Vi.setK3_s, Vi.ex_set, Vi.ex_aug, Vi.ex_augS, Vi.augM, Vi.augSM, Vi.exs_nil, Vi.exs_cons, Vi.run_b, Vi.runK_ret, Vi.runK_nx, Vi.frzE_nil, Vi.frz_cons, Vi.frzK_ol, Vi.frzK2_s, Vi.frzK_fz, Vi.frzK_no, Vi.frzK_olI, Vi.rdV_olI, Vi.mvV_olI, Vi.olO_olI, Vi.lent_olI, Vi.closed_olI, Vi.dOf_fz, Vi.dOf_olI, Vi.dOf_olI', Vi.dsOf_fz, Vi.dsOf_ints, Vi.dsOf_nil, Vi.dsOf_cons, Option.map_some, Vi.binD, Vi.add_int, Vi.sub_int, Vi.cmpD, Vi.lt_int, Vi.le_int, Vi.gt_int, Vi.ge_int, Vi.neg_int, Vi.bf_len_l, Vi.bf_len_t, Vi.bf_len_s, Vi.bf_abs, Vi.bf_int, Vi.bf_intb, Vi.bf_max2, Vi.bf_min2, Vi.bf_list_l, Vi.bf_list_t, Vi.bf_tup_l, Vi.bf_sum, Vi.ix_l, Vi.ix_t, Vi.ix_s, Vi.isiD, Vi.chain2, Vi.iop_add, Vi.iop_sub, Vi.it_l, Vi.it_t, Vi.it_s, Vi.lentOk, Vi.outs_nil, Vi.outs_fz, Vi.outs_c, List.tail_cons, Vi.killE, Vi.noOwn, Vi.closed, Vi.closeds, Vi.closedD, Vi.closeds_ints, Vi.wipeE, Vi.resE, Vi.bd_nm, Vi.bd_tp, Vi.bdN, Vi.bdT, Vi.bdsN, Vi.bdNil, Vi.bdCons, Vi.Tg.js, Vi.partM, Vi.eq_int, Vi.eq_str, Vi.eq_bool, Vi.eq_ints, a1, a3, ← l1, ← l2, e0]
  have e2 : exs rho__law_right [] b__law_right_4 [some (.fz (.int p)), some (.fz (.int q)), some (.fz (.int most)), some (olI D), some (olI B), some (olI D), some (olI B), none] = .ret (.fz (.bool true)) env := by
    simp -implicitDefEqProofs [b__law_right_4, Vi.bind_ok, Vi.bind_bad, Vi.bind_ex, Vi.so_ok, Vi.sb_nx, Vi.sb_ret, Vi.sb_bad, Vi.d_fz, Vi.d_olI, Vi.d_ol, Vi.o_some, Vi.tst_b, Vi.tst_i, Vi.tst_l, Vi.tst_s, Vi.tst_n, Vi.oB_some, Vi.oP_some, Vi.oL_some, Vi.rdV_fz, Vi.rdV_ol, Vi.rdV2_some, Vi.mvV_ol, Vi.mvV_fz, Vi.rdVar_c, Vi.ev_var, Vi.ev_mv, Vi.ev_int, Vi.ev_bl, Vi.ev_non, Vi.ev_str, Vi.ev_gi, Vi.ev_gs, Vi.ev_bin, Vi.ev_neg, Vi.ev_cmp, Vi.evT_cmp, Vi.ev_chain, Vi.ev_one, Vi.andK_b, Vi.orK_b, Vi.notK_b, Vi.ev_and, Vi.ev_or, Vi.ev_not, Vi.isB_b, Vi.ev_ite, Vi.ev_tup, Vi.ev_lst, Vi.ev_ix, Vi.ev_slc, Vi.evP_no, Vi.evP_yes, Vi.ev_call, Vi.calK_some, Vi.calR_ok, Vi.evA_nil, Vi.evA_e, Vi.evA_o, Vi.args_nil, Vi.args_e, Vi.args_o, Vi.argK_s, Vi.asm_nil, Vi.asm_e, Vi.asm_o, Vi.asmK_s, Vi.lent_ol, Vi.lent_sc, Vi.lent_fz, Vi.put_nil, Vi.put_e, Vi.put_o, Vi.ev_blt, Vi.ev_isi, Vi.ev_lsc, Vi.lscK_s, Vi.cmpK_ok, Vi.ev_lc, Vi.evC_no, Vi.evC_yes, Vi.evI_e, Vi.evI_r1, Vi.evI_r2, Vi.evs_nil, Vi.evs_cons, Vi.evO_nil, Vi.evO_cons, Vi.olO_s, Vi.olOf_c, Vi.appK_s, Vi.appK2_s, Vi.ev_app, Vi.bwK_ok, Vi.ev_bw, Vi.bwK'_ok, Vi.evT_bw, Vi.evT_chain, Vi.evT_one, Vi.evT_and, Vi.evT_or, Vi.evT_not, Vi.evT_var, Vi.evT_call, Vi.evT_isi, Vi.evT_blt, Vi.evT_ix, Vi.evT_bin, Vi.evT_bl, Vi.ex_pass, Vi.ex_asg, Vi.ex_expr, Vi.ex_ret, Vi.ex_retN, Vi.ex_if, Vi.ex_for, Vi.setK_s, Vi.setK2_s, Vi.setK3_s, Vi.ex_set, Vi.ex_aug, Vi.ex_augS, Vi.augM, Vi.augSM, Vi.exs_nil, Vi.exs_cons, Vi.run_b, Vi.runK_ret, Vi.runK_nx, Vi.frzE_nil, Vi.frz_cons, Vi.frzK_ol, Vi.frzK2_s, Vi.frzK_fz, Vi.frzK_no, Vi.frzK_olI, Vi.rdV_olI, Vi.mvV_olI, Vi.olO_olI, Vi.lent_olI, Vi.closed_olI, Vi.dOf_fz, Vi.dOf_olI, Vi.dOf_olI', Vi.dsOf_fz, Vi.dsOf_ints, Vi.dsOf_nil, Vi.dsOf_cons, Option.map_some, Vi.binD, Vi.add_int, Vi.sub_int, Vi.cmpD, Vi.lt_int, Vi.le_int, Vi.gt_int, Vi.ge_int, Vi.neg_int, Vi.bf_len_l, Vi.bf_len_t, Vi.bf_len_s, Vi.bf_abs, Vi.bf_int, Vi.bf_intb, Vi.bf_max2, Vi.bf_min2, Vi.bf_list_l, Vi.bf_list_t, Vi.bf_tup_l, Vi.bf_sum, Vi.ix_l, Vi.ix_t, Vi.ix_s, Vi.isiD, Vi.chain2, Vi.iop_add, Vi.iop_sub, Vi.it_l, Vi.it_t, Vi.it_s, Vi.lentOk, Vi.outs_nil, Vi.outs_fz, Vi.outs_c, List.tail_cons, Vi.killE, Vi.noOwn, Vi.closed, Vi.closeds, Vi.closedD, Vi.closeds_ints, Vi.wipeE, Vi.resE, Vi.bd_nm, Vi.bd_tp, Vi.bdN, Vi.bdT, Vi.bdsN, Vi.bdNil, Vi.bdCons, Vi.Tg.js, Vi.partM, Vi.eq_int, Vi.eq_str, Vi.eq_bool, Vi.eq_ints, rr, c, e1]
  have e3 : exs rho__law_right [] b__law_right_5 [some (.fz (.int p)), some (.fz (.int q)), some (.fz (.int most)), some (olI D), some (olI B), some (olI D), some (olI B), none] = .ret (.fz (.bool true)) env := by
    simp -implicitDefEqProofs [b__law_right_5, Vi.bind_ok, Vi.bind_bad, Vi.bind_ex, Vi.so_ok, Vi.sb_nx, Vi.sb_ret, Vi.sb_bad, Vi.d_fz, Vi.d_olI, Vi.d_ol, Vi.o_some, Vi.tst_b, Vi.tst_i, Vi.tst_l, Vi.tst_s, Vi.tst_n, Vi.oB_some, Vi.oP_some, Vi.oL_some, Vi.rdV_fz, Vi.rdV_ol, Vi.rdV2_some, Vi.mvV_ol, Vi.mvV_fz, Vi.rdVar_c, Vi.ev_var, Vi.ev_mv, Vi.ev_int, Vi.ev_bl, Vi.ev_non, Vi.ev_str, Vi.ev_gi, Vi.ev_gs, Vi.ev_bin, Vi.ev_neg, Vi.ev_cmp, Vi.evT_cmp, Vi.ev_chain, Vi.ev_one, Vi.andK_b, Vi.orK_b, Vi.notK_b, Vi.ev_and, Vi.ev_or, Vi.ev_not, Vi.isB_b, Vi.ev_ite, Vi.ev_tup, Vi.ev_lst, Vi.ev_ix, Vi.ev_slc, Vi.evP_no, Vi.evP_yes, Vi.ev_call, Vi.calK_some, Vi.calR_ok, Vi.evA_nil, Vi.evA_e, Vi.evA_o, Vi.args_nil, Vi.args_e, Vi.args_o, Vi.argK_s, Vi.asm_nil, Vi.asm_e, Vi.asm_o, Vi.asmK_s, Vi.lent_ol, Vi.lent_sc, Vi.lent_fz, Vi.put_nil, Vi.put_e, Vi.put_o, Vi.ev_blt, Vi.ev_isi, Vi.ev_lsc, Vi.lscK_s, Vi.cmpK_ok, Vi.ev_lc, Vi.evC_no, Vi.evC_yes, Vi.evI_e, Vi.evI_r1, Vi.evI_r2, Vi.evs_nil, Vi.evs_cons, Vi.evO_nil, Vi.evO_cons, Vi.olO_s, Vi.olOf_c, Vi.appK_s, Vi.appK2_s, Vi.ev_app, Vi.bwK_ok, Vi.ev_bw, Vi.bwK'_ok, Vi.evT_bw, Vi.evT_chain, Vi.evT_one, Vi.evT_and, Vi.evT_or, Vi.evT_not, Vi.evT_var, Vi.evT_call, Vi.evT_isi, Vi.evT_blt, Vi.evT_ix, Vi.evT_bin, Vi.evT_bl, Vi.ex_pass, Vi.ex_asg, Vi.ex_expr, Vi.ex_ret, Vi.ex_retN, Vi.ex_if, Vi.ex_for, Vi.setK_s, Vi.setK2_s, Vi.setK3_s, Vi.ex_set, Vi.ex_aug, Vi.ex_augS, Vi.augM, Vi.augSM, Vi.exs_nil, Vi.exs_cons, Vi.run_b, Vi.runK_ret, Vi.runK_nx, Vi.frzE_nil, Vi.frz_cons, Vi.frzK_ol, Vi.frzK2_s, Vi.frzK_fz, Vi.frzK_no, Vi.frzK_olI, Vi.rdV_olI, Vi.mvV_olI, Vi.olO_olI, Vi.lent_olI, Vi.closed_olI, Vi.dOf_fz, Vi.dOf_olI, Vi.dOf_olI', Vi.dsOf_fz, Vi.dsOf_ints, Vi.dsOf_nil, Vi.dsOf_cons, Option.map_some, Vi.binD, Vi.add_int, Vi.sub_int, Vi.cmpD, Vi.lt_int, Vi.le_int, Vi.gt_int, Vi.ge_int, Vi.neg_int, Vi.bf_len_l, Vi.bf_len_t, Vi.bf_len_s, Vi.bf_abs, Vi.bf_int, Vi.bf_intb, Vi.bf_max2, Vi.bf_min2, Vi.bf_list_l, Vi.bf_list_t, Vi.bf_tup_l, Vi.bf_sum, Vi.ix_l, Vi.ix_t, Vi.ix_s, Vi.isiD, Vi.chain2, Vi.iop_add, Vi.iop_sub, Vi.it_l, Vi.it_t, Vi.it_s, Vi.lentOk, Vi.outs_nil, Vi.outs_fz, Vi.outs_c, List.tail_cons, Vi.killE, Vi.noOwn, Vi.closed, Vi.closeds, Vi.closedD, Vi.closeds_ints, Vi.wipeE, Vi.resE, Vi.bd_nm, Vi.bd_tp, Vi.bdN, Vi.bdT, Vi.bdsN, Vi.bdNil, Vi.bdCons, Vi.Tg.js, Vi.partM, Vi.eq_int, Vi.eq_str, Vi.eq_bool, Vi.eq_ints, rho__law_right, t1, t2, e2]
  simp -implicitDefEqProofs [den__law_right, bod__law_right, b__law_right_6, b__law_right_7, b__law_right_8, b__law_right_9, Vi.bind_ok, Vi.bind_bad, Vi.bind_ex, Vi.so_ok, Vi.sb_nx, Vi.sb_ret, Vi.sb_bad, Vi.d_fz, Vi.d_olI, Vi.d_ol, Vi.o_some, Vi.tst_b, Vi.tst_i, Vi.tst_l, Vi.tst_s, Vi.tst_n, Vi.oB_some, Vi.oP_some, Vi.oL_some, Vi.rdV_fz, Vi.rdV_ol, Vi.rdV2_some, Vi.mvV_ol, Vi.mvV_fz, Vi.rdVar_c, Vi.ev_var, Vi.ev_mv, Vi.ev_int, Vi.ev_bl, Vi.ev_non, Vi.ev_str, Vi.ev_gi, Vi.ev_gs, Vi.ev_bin, Vi.ev_neg, Vi.ev_cmp, Vi.evT_cmp, Vi.ev_chain, Vi.ev_one, Vi.andK_b, Vi.orK_b, Vi.notK_b, Vi.ev_and, Vi.ev_or, Vi.ev_not, Vi.isB_b, Vi.ev_ite, Vi.ev_tup, Vi.ev_lst, Vi.ev_ix, Vi.ev_slc, Vi.evP_no, Vi.evP_yes, Vi.ev_call, Vi.calK_some, Vi.calR_ok, Vi.evA_nil, Vi.evA_e, Vi.evA_o, Vi.args_nil, Vi.args_e, Vi.args_o, Vi.argK_s, Vi.asm_nil, Vi.asm_e, Vi.asm_o, Vi.asmK_s, Vi.lent_ol, Vi.lent_sc, Vi.lent_fz, Vi.put_nil, Vi.put_e, Vi.put_o, Vi.ev_blt, Vi.ev_isi, Vi.ev_lsc, Vi.lscK_s, Vi.cmpK_ok, Vi.ev_lc, Vi.evC_no, Vi.evC_yes, Vi.evI_e, Vi.evI_r1, Vi.evI_r2, Vi.evs_nil, Vi.evs_cons, Vi.evO_nil, Vi.evO_cons, Vi.olO_s, Vi.olOf_c, Vi.appK_s, Vi.appK2_s, Vi.ev_app, Vi.bwK_ok, Vi.ev_bw, Vi.bwK'_ok, Vi.evT_bw, Vi.evT_chain, Vi.evT_one, Vi.evT_and, Vi.evT_or, Vi.evT_not, Vi.evT_var, Vi.evT_call, Vi.evT_isi, Vi.evT_blt, Vi.evT_ix, Vi.evT_bin, Vi.evT_bl, Vi.ex_pass, Vi.ex_asg, Vi.ex_expr, Vi.ex_ret, Vi.ex_retN, Vi.ex_if, Vi.ex_for, Vi.setK_s, Vi.setK2_s, Vi.setK3_s, Vi.ex_set, Vi.ex_aug, Vi.ex_augS, Vi.augM, Vi.augSM, Vi.exs_nil, Vi.exs_cons, Vi.run_b, Vi.runK_ret, Vi.runK_nx, Vi.frzE_nil, Vi.frz_cons, Vi.frzK_ol, Vi.frzK2_s, Vi.frzK_fz, Vi.frzK_no, Vi.frzK_olI, Vi.rdV_olI, Vi.mvV_olI, Vi.olO_olI, Vi.lent_olI, Vi.closed_olI, Vi.dOf_fz, Vi.dOf_olI, Vi.dOf_olI', Vi.dsOf_fz, Vi.dsOf_ints, Vi.dsOf_nil, Vi.dsOf_cons, Option.map_some, Vi.binD, Vi.add_int, Vi.sub_int, Vi.cmpD, Vi.lt_int, Vi.le_int, Vi.gt_int, Vi.ge_int, Vi.neg_int, Vi.bf_len_l, Vi.bf_len_t, Vi.bf_len_s, Vi.bf_abs, Vi.bf_int, Vi.bf_intb, Vi.bf_max2, Vi.bf_min2, Vi.bf_list_l, Vi.bf_list_t, Vi.bf_tup_l, Vi.bf_sum, Vi.ix_l, Vi.ix_t, Vi.ix_s, Vi.isiD, Vi.chain2, Vi.iop_add, Vi.iop_sub, Vi.it_l, Vi.it_t, Vi.it_s, Vi.lentOk, Vi.outs_nil, Vi.outs_fz, Vi.outs_c, List.tail_cons, Vi.killE, Vi.noOwn, Vi.closed, Vi.closeds, Vi.closedD, Vi.closeds_ints, Vi.wipeE, Vi.resE, Vi.bd_nm, Vi.bd_tp, Vi.bdN, Vi.bdT, Vi.bdsN, Vi.bdNil, Vi.bdCons, Vi.Tg.js, Vi.partM, Vi.eq_int, Vi.eq_str, Vi.eq_bool, Vi.eq_ints, rho__law_right, r1, r2, r3, r4, e3]
end
end K69

set_option Elab.async false
set_option linter.all false
set_option maxRecDepth 100000
set_option maxHeartbeats 4000000
namespace K69
open PySem Vi L2
section
variable {p q m most : Int}
theorem isFeed_lent {o : OV} (h : IsFeed o) : lent o = true := by
  obtain ⟨ns, i, b, s, rfl, _⟩ := h; rfl
theorem part2 {a t k mn : Option OV} {o : OV} (hq : 0 < q) (hpq : q ≤ p) (hp : p ≤ 40) (hm : 0 ≤ most) (hm2 : most ≤ 1000) :
    exs rho_law [0] b_law_4 [a, some o, t, some (.fz (.int q)), some (.fz (.int p)), k, some (.fz (.int most)), mn] = .nx [a, some o, t, some (.fz (.int q)), some (.fz (.int p)), k, some (.fz (.int most)), some (.fz (.int (40 / p)))] := by
  have hp0 : 0 < p := by omega
  have r1 := ok_right (p := p) (q := q) (most := most) hp0 (by omega) hq hpq hm (by omega)
  have r2 := ok_right (p := p) (q := q) (most := 0) hp0 (by omega) hq hpq (by omega) (by omega)
  have r3 := ok_right (p := 40) (q := q) (most := most) (by omega) (by omega) hq (by omega) hm (by omega)
  have hk : 0 < 40 / p := Int.le_ediv_of_mul_le hp0 (by omega)
  have hk2 : 40 / p ≤ 40 := Int.ediv_le_of_le_mul hp0 (by omega)
  have s1 : p * (40 / p) ≤ 40 := by have := Int.mul_ediv_self_le (x := 40) (k := p) (by omega); omega
  have s0 : 0 < p * (40 / p) := Int.mul_pos hp0 hk
  have s2 : q * (40 / p) ≤ p * (40 / p) := Int.mul_le_mul_of_nonneg_right hpq (by omega)
  have s3 : 0 < q * (40 / p) := Int.mul_pos hq hk
  have w1 := ok_row (p := p) (q := q) (most := most) hp0 (by omega) hq (by omega) hm (by omega)
  have w2 := ok_rowB (p := p) (q := q) (most := most) hp0 (by omega) hq (by omega) hm (by omega)
  have w3 := ok_row (p := p * (40 / p)) (q := q * (40 / p)) (most := most) s0 (by omega) s3 (by omega) hm (by omega)
  have w4 := ok_rowB (p := p * (40 / p)) (q := q * (40 / p)) (most := most) s0 (by omega) s3 (by omega) hm (by omega)
  rw [row_scale hp0 hq hk] at w3
  rw [rowB_scale hp0 hq hk] at w4
  have a3 : ∀ a, fdivD (.int a) (.int p) = some (.fz (.int (a / p))) := fun a => div_e hp0 (by omega)
  have a1 : ∀ a, mulD (.int a) (.int (40 / p)) = some (.fz (.int (a * (40 / p)))) := fun a => mul_r (by omega)
  generalize row p q most = R at w1 w3
  generalize rowB p q most = B at w2 w4
  simp -implicitDefEqProofs [b_law_4, b_law_3, b_law_2, Vi.bind_ok, Vi.bind_bad, Vi.bind_ex, Vi.so_ok, Vi.sb_nx, Vi.sb_ret, Vi.sb_bad, Vi.d_fz, Vi.d_olI, Vi.d_ol, Vi.o_some, Vi.tst_b, Vi.tst_i, Vi.tst_l, Vi.tst_s, Vi.tst_n, Vi.oB_some, Vi.oP_some, Vi.oL_some, Vi.rdV_fz, Vi.rdV_ol, Vi.rdV2_some, Vi.mvV_ol, Vi.mvV_fz, Vi.rdVar_c, Vi.ev_var, Vi.ev_mv, Vi.ev_int, Vi.ev_bl, Vi.ev_non, Vi.ev_str, Vi.ev_gi, Vi.ev_gs, Vi.ev_bin, Vi.ev_neg, Vi.ev_cmp, Vi.evT_cmp, Vi.ev_chain, Vi.ev_one, Vi.andK_b, Vi.orK_b, Vi.notK_b, Vi.ev_and, Vi.ev_or, Vi.ev_not, Vi.isB_b, Vi.ev_ite, Vi.ev_tup, Vi.ev_lst, Vi.ev_ix, Vi.ev_slc, Vi.evP_no, Vi.evP_yes, Vi.ev_call, Vi.calK_some, Vi.calR_ok, Vi.evA_nil, Vi.evA_e, Vi.evA_o, Vi.args_nil, Vi.args_e, Vi.args_o, Vi.argK_s, Vi.asm_nil, Vi.asm_e, Vi.asm_o, Vi.asmK_s, Vi.lent_ol, Vi.lent_sc, Vi.lent_fz, Vi.put_nil, Vi.put_e, Vi.put_o, Vi.ev_blt, Vi.ev_isi, Vi.ev_lsc, Vi.lscK_s, Vi.cmpK_ok, Vi.ev_lc, Vi.evC_no, Vi.evC_yes, Vi.evI_e, Vi.evI_r1, Vi.evI_r2, Vi.evs_nil, Vi.evs_cons, Vi.evO_nil, Vi.evO_cons, Vi.olO_s, Vi.olOf_c, Vi.appK_s, Vi.appK2_s, Vi.ev_app, Vi.bwK_ok, Vi.ev_bw, Vi.bwK'_ok, Vi.evT_bw, Vi.evT_chain, Vi.evT_one, Vi.evT_and, Vi.evT_or, Vi.evT_not, Vi.evT_var, Vi.evT_call, Vi.evT_isi, Vi.evT_blt, Vi.evT_ix, Vi.evT_bin, Vi.evT_bl, Vi.ex_pass, Vi.ex_asg, Vi.ex_expr, Vi.ex_ret, Vi.ex_retN, Vi.ex_if, Vi.ex_for, Vi.setK_s, Vi.setK2_s, Vi.setK3_s, Vi.ex_set, Vi.ex_aug, Vi.ex_augS, Vi.augM, Vi.augSM, Vi.exs_nil, Vi.exs_cons, Vi.run_b, Vi.runK_ret, Vi.runK_nx, Vi.frzE_nil, Vi.frz_cons, Vi.frzK_ol, Vi.frzK2_s, Vi.frzK_fz, Vi.frzK_no, Vi.frzK_olI, Vi.rdV_olI, Vi.mvV_olI, Vi.olO_olI, Vi.lent_olI, Vi.closed_olI, Vi.dOf_fz, Vi.dOf_olI, Vi.dOf_olI', Vi.dsOf_fz, Vi.dsOf_ints, Vi.dsOf_nil, Vi.dsOf_cons, Option.map_some, Vi.binD, Vi.add_int, Vi.sub_int, Vi.cmpD, Vi.lt_int, Vi.le_int, Vi.gt_int, Vi.ge_int, Vi.neg_int, Vi.bf_len_l, Vi.bf_len_t, Vi.bf_len_s, Vi.bf_abs, Vi.bf_int, Vi.bf_intb, Vi.bf_max2, Vi.bf_min2, Vi.bf_list_l, Vi.bf_list_t, Vi.bf_tup_l, Vi.bf_sum, Vi.ix_l, Vi.ix_t, Vi.ix_s, Vi.isiD, Vi.chain2, Vi.iop_add, Vi.iop_sub, Vi.it_l, Vi.it_t, Vi.it_s, Vi.lentOk, Vi.outs_nil, Vi.outs_fz, Vi.outs_c, List.tail_cons, Vi.killE, Vi.noOwn, Vi.closed, Vi.closeds, Vi.closedD, Vi.closeds_ints, Vi.wipeE, Vi.resE, Vi.bd_nm, Vi.bd_tp, Vi.bdN, Vi.bdT, Vi.bdsN, Vi.bdNil, Vi.bdCons, Vi.Tg.js, Vi.partM, Vi.eq_int, Vi.eq_str, Vi.eq_bool, Vi.eq_ints, rho_law, r1, r2, r3, a1, a3, w1, w2, w3, w4]
theorem pick {r : Int} (h0 : 0 ≤ r) (h1 : r < 4) : ∃ v, atI [PyData.int 61, .int 61, .int 61, .int 1001] r = some (.int v) ∧ 61 ≤ v ∧ v ≤ 1001 := by
  have : r = 0 ∨ r = 1 ∨ r = 2 ∨ r = 3 := by omega
  rcases this with rfl | rfl | rfl | rfl
  · exact ⟨61, rfl, by decide, by decide⟩
  · exact ⟨61, rfl, by decide, by decide⟩
  · exact ⟨61, rfl, by decide, by decide⟩
  · exact ⟨1001, rfl, by decide, by decide⟩
theorem part1 {a t q0 p0 k m0 mn : Option OV} {o : OV} (hf : IsFeed o) : ∃ (o' : OV) (t' q' p' k' m' mn' : Option OV), IsFeed o' ∧
    exs rho_law [0] b_law_9 [a, some o, t, q0, p0, k, m0, mn] = .nx [a, some o', t', q', p', k', m', mn'] := by
  obtain ⟨r1, o1, d1, l1, u1, f1⟩ := draw_ok hf (many := 40) (by decide) (by decide)
  obtain ⟨q, hq⟩ : ∃ q, q = 1 + r1 := ⟨_, rfl⟩
  obtain ⟨r2, o2, d2, l2, u2, f2⟩ := draw_ok f1 (many := 41 - q) (by omega) (by omega)
  obtain ⟨r3, o3, d3, l3, u3, f3⟩ := draw_ok f2 (many := 5) (by decide) (by decide)
  obtain ⟨r4, o4, d4, l4, u4, f4⟩ := draw_ok f3 (many := 4) (by decide) (by decide)
  obtain ⟨v, hv, v1, v2⟩ := pick l4 u4
  obtain ⟨most, o5, d5, l5, u5, f5⟩ := draw_ok f4 (many := v) (by omega) (by omega)
  have e1 := isFeed_lent hf
  have e2 := isFeed_lent f1
  have e3 := isFeed_lent f2
  have e4 := isFeed_lent f3
  have e5 := isFeed_lent f4
  have sz : 4 ≤ sizeLine := by decide
  have hq1 : 1 + r1 = q := hq.symm
  have q1 : 0 < q := by omega
  have d1' : Vi.den__law_draw = den__law_draw := rfl
  rw [d1'] at d1 d2 d3 d4 d5
  have x1 : 40 / q * q ≤ 40 := Int.ediv_mul_le 40 (by omega)
  have x2 : 1 ≤ 40 / q := Int.le_ediv_of_mul_le q1 (by omega)
  have x3 : q ≤ q * (40 / q) := by have := Int.mul_le_mul_of_nonneg_left x2 (show 0 ≤ q by omega); omega
  have x4 : q * (40 / q) ≤ 40 := by rw [Int.mul_comm]; exact x1
  have a3 : ∀ a, fdivD (.int a) (.int q) = some (.fz (.int (a / q))) := fun a => div_e q1 (by omega)
  have a1 : ∀ a, mulD (.int q) (.int a) = some (.fz (.int (q * a))) := fun a => mul_l (by omega)
  refine ⟨o5, t, some (.fz (.int q)), some (.fz (.int (if r3 = 0 then q else if r3 = 1 then q * (40 / q) else q + r2))), some (.fz (.int r3)), some (.fz (.int most)), some (.fz (.int (40 / (if r3 = 0 then q else if r3 = 1 then q * (40 / q) else q + r2)))), f5, ?_⟩
  have pt : ∀ p, q ≤ p → p ≤ 40 → exs rho_law [0] b_law_5 [a, some o3, t, some (.fz (.int q)), some (.fz (.int p)), some (.fz (.int r3)), m0, mn] = .nx [a, some o5, t, some (.fz (.int q)), some (.fz (.int p)), some (.fz (.int r3)), some (.fz (.int most)), some (.fz (.int (40 / p)))] := fun p h1 h2 => by
    have := part2 (a := a) (t := t) (k := some (.fz (.int r3))) (mn := mn) (o := o5) q1 h1 h2 l5 (by omega)
    simp -implicitDefEqProofs [b_law_5, Vi.bind_ok, Vi.bind_bad, Vi.bind_ex, Vi.so_ok, Vi.sb_nx, Vi.sb_ret, Vi.sb_bad, Vi.d_fz, Vi.d_olI, Vi.d_ol, Vi.o_some, Vi.tst_b, Vi.tst_i, Vi.tst_l, Vi.tst_s, Vi.tst_n, Vi.oB_some, Vi.oP_some, Vi.oL_some, Vi.rdV_fz, Vi.rdV_ol, Vi.rdV2_some, Vi.mvV_ol, Vi.mvV_fz, Vi.rdVar_c, Vi.ev_var, Vi.ev_mv, Vi.ev_int, Vi.ev_bl, Vi.ev_non, Vi.ev_str, Vi.ev_gi, Vi.ev_gs, Vi.ev_bin, Vi.ev_neg, Vi.ev_cmp, Vi.evT_cmp, Vi.ev_chain, Vi.ev_one, Vi.andK_b, Vi.orK_b, Vi.notK_b, Vi.ev_and, Vi.ev_or, Vi.ev_not, Vi.isB_b, Vi.ev_ite, Vi.ev_tup, Vi.ev_lst, Vi.ev_ix, Vi.ev_slc, Vi.evP_no, Vi.evP_yes, Vi.ev_call, Vi.calK_some, Vi.calR_ok, Vi.evA_nil, Vi.evA_e, Vi.evA_o, Vi.args_nil, Vi.args_e, Vi.args_o, Vi.argK_s, Vi.asm_nil, Vi.asm_e, Vi.asm_o, Vi.asmK_s, Vi.lent_ol, Vi.lent_sc, Vi.lent_fz, Vi.put_nil, Vi.put_e, Vi.put_o, Vi.ev_blt, Vi.ev_isi, Vi.ev_lsc, Vi.lscK_s, Vi.cmpK_ok, Vi.ev_lc, Vi.evC_no, Vi.evC_yes, Vi.evI_e, Vi.evI_r1, Vi.evI_r2, Vi.evs_nil, Vi.evs_cons, Vi.evO_nil, Vi.evO_cons, Vi.olO_s, Vi.olOf_c, Vi.appK_s, Vi.appK2_s, Vi.ev_app, Vi.bwK_ok, Vi.ev_bw, Vi.bwK'_ok, Vi.evT_bw, Vi.evT_chain, Vi.evT_one, Vi.evT_and, Vi.evT_or, Vi.evT_not, Vi.evT_var, Vi.evT_call, Vi.evT_isi, Vi.evT_blt, Vi.evT_ix, Vi.evT_bin, Vi.evT_bl, Vi.ex_pass, Vi.ex_asg, Vi.ex_expr, Vi.ex_ret, Vi.ex_retN, Vi.ex_if, Vi.ex_for, Vi.setK_s, Vi.setK2_s, Vi.setK3_s, Vi.ex_set, Vi.ex_aug, Vi.ex_augS, Vi.augM, Vi.augSM, Vi.exs_nil, Vi.exs_cons, Vi.run_b, Vi.runK_ret, Vi.runK_nx, Vi.frzE_nil, Vi.frz_cons, Vi.frzK_ol, Vi.frzK2_s, Vi.frzK_fz, Vi.frzK_no, Vi.frzK_olI, Vi.rdV_olI, Vi.mvV_olI, Vi.olO_olI, Vi.lent_olI, Vi.closed_olI, Vi.dOf_fz, Vi.dOf_olI, Vi.dOf_olI', Vi.dsOf_fz, Vi.dsOf_ints, Vi.dsOf_nil, Vi.dsOf_cons, Option.map_some, Vi.binD, Vi.add_int, Vi.sub_int, Vi.cmpD, Vi.lt_int, Vi.le_int, Vi.gt_int, Vi.ge_int, Vi.neg_int, Vi.bf_len_l, Vi.bf_len_t, Vi.bf_len_s, Vi.bf_abs, Vi.bf_int, Vi.bf_intb, Vi.bf_max2, Vi.bf_min2, Vi.bf_list_l, Vi.bf_list_t, Vi.bf_tup_l, Vi.bf_sum, Vi.ix_l, Vi.ix_t, Vi.ix_s, Vi.isiD, Vi.chain2, Vi.iop_add, Vi.iop_sub, Vi.it_l, Vi.it_t, Vi.it_s, Vi.lentOk, Vi.outs_nil, Vi.outs_fz, Vi.outs_c, List.tail_cons, Vi.killE, Vi.noOwn, Vi.closed, Vi.closeds, Vi.closedD, Vi.closeds_ints, Vi.wipeE, Vi.resE, Vi.bd_nm, Vi.bd_tp, Vi.bdN, Vi.bdT, Vi.bdsN, Vi.bdNil, Vi.bdCons, Vi.Tg.js, Vi.partM, Vi.eq_int, Vi.eq_str, Vi.eq_bool, Vi.eq_ints, rho_law, d4, d5, e4, e5, sz, hv, this]
  by_cases c0 : r3 = 0
  · subst c0
    have := pt q (by omega) (by omega)
    simp -implicitDefEqProofs [b_law_9, b_law_8, b_law_7, b_law_6, Vi.bind_ok, Vi.bind_bad, Vi.bind_ex, Vi.so_ok, Vi.sb_nx, Vi.sb_ret, Vi.sb_bad, Vi.d_fz, Vi.d_olI, Vi.d_ol, Vi.o_some, Vi.tst_b, Vi.tst_i, Vi.tst_l, Vi.tst_s, Vi.tst_n, Vi.oB_some, Vi.oP_some, Vi.oL_some, Vi.rdV_fz, Vi.rdV_ol, Vi.rdV2_some, Vi.mvV_ol, Vi.mvV_fz, Vi.rdVar_c, Vi.ev_var, Vi.ev_mv, Vi.ev_int, Vi.ev_bl, Vi.ev_non, Vi.ev_str, Vi.ev_gi, Vi.ev_gs, Vi.ev_bin, Vi.ev_neg, Vi.ev_cmp, Vi.evT_cmp, Vi.ev_chain, Vi.ev_one, Vi.andK_b, Vi.orK_b, Vi.notK_b, Vi.ev_and, Vi.ev_or, Vi.ev_not, Vi.isB_b, Vi.ev_ite, Vi.ev_tup, Vi.ev_lst, Vi.ev_ix, Vi.ev_slc, Vi.evP_no, Vi.evP_yes, Vi.ev_call, Vi.calK_some, Vi.calR_ok, Vi.evA_nil, Vi.evA_e, Vi.evA_o, Vi.args_nil, Vi.args_e, Vi.args_o, Vi.argK_s, Vi.asm_nil, Vi.asm_e, Vi.asm_o, Vi.asmK_s, Vi.lent_ol, Vi.lent_sc, Vi.lent_fz, Vi.put_nil, Vi.put_e, Vi.put_o, Vi.ev_blt, Vi.ev_isi, Vi.ev_lsc, Vi.lscK_s, Vi.cmpK_ok, Vi.ev_lc, Vi.evC_no, Vi.evC_yes, Vi.evI_e, Vi.evI_r1, Vi.evI_r2, Vi.evs_nil, Vi.evs_cons, Vi.evO_nil, Vi.evO_cons, Vi.olO_s, Vi.olOf_c, Vi.appK_s, Vi.appK2_s, Vi.ev_app, Vi.bwK_ok, Vi.ev_bw, Vi.bwK'_ok, Vi.evT_bw, Vi.evT_chain, Vi.evT_one, Vi.evT_and, Vi.evT_or, Vi.evT_not, Vi.evT_var, Vi.evT_call, Vi.evT_isi, Vi.evT_blt, Vi.evT_ix, Vi.evT_bin, Vi.evT_bl, Vi.ex_pass, Vi.ex_asg, Vi.ex_expr, Vi.ex_ret, Vi.ex_retN, Vi.ex_if, Vi.ex_for, Vi.setK_s, Vi.setK2_s, Vi.setK3_s, Vi.ex_set, Vi.ex_aug, Vi.ex_augS, Vi.augM, Vi.augSM, Vi.exs_nil, Vi.exs_cons, Vi.run_b, Vi.runK_ret, Vi.runK_nx, Vi.frzE_nil, Vi.frz_cons, Vi.frzK_ol, Vi.frzK2_s, Vi.frzK_fz, Vi.frzK_no, Vi.frzK_olI, Vi.rdV_olI, Vi.mvV_olI, Vi.olO_olI, Vi.lent_olI, Vi.closed_olI, Vi.dOf_fz, Vi.dOf_olI, Vi.dOf_olI', Vi.dsOf_fz, Vi.dsOf_ints, Vi.dsOf_nil, Vi.dsOf_cons, Option.map_some, Vi.binD, Vi.add_int, Vi.sub_int, Vi.cmpD, Vi.lt_int, Vi.le_int, Vi.gt_int, Vi.ge_int, Vi.neg_int, Vi.bf_len_l, Vi.bf_len_t, Vi.bf_len_s, Vi.bf_abs, Vi.bf_int, Vi.bf_intb, Vi.bf_max2, Vi.bf_min2, Vi.bf_list_l, Vi.bf_list_t, Vi.bf_tup_l, Vi.bf_sum, Vi.ix_l, Vi.ix_t, Vi.ix_s, Vi.isiD, Vi.chain2, Vi.iop_add, Vi.iop_sub, Vi.it_l, Vi.it_t, Vi.it_s, Vi.lentOk, Vi.outs_nil, Vi.outs_fz, Vi.outs_c, List.tail_cons, Vi.killE, Vi.noOwn, Vi.closed, Vi.closeds, Vi.closedD, Vi.closeds_ints, Vi.wipeE, Vi.resE, Vi.bd_nm, Vi.bd_tp, Vi.bdN, Vi.bdT, Vi.bdsN, Vi.bdNil, Vi.bdCons, Vi.Tg.js, Vi.partM, Vi.eq_int, Vi.eq_str, Vi.eq_bool, Vi.eq_ints, rho_law, d1, d2, d3, e1, e2, e3, hq1, this]
  · by_cases c1 : r3 = 1
    · subst c1
      have := pt (q * (40 / q)) x3 x4
      simp -implicitDefEqProofs [b_law_9, b_law_8, b_law_7, b_law_6, Vi.bind_ok, Vi.bind_bad, Vi.bind_ex, Vi.so_ok, Vi.sb_nx, Vi.sb_ret, Vi.sb_bad, Vi.d_fz, Vi.d_olI, Vi.d_ol, Vi.o_some, Vi.tst_b, Vi.tst_i, Vi.tst_l, Vi.tst_s, Vi.tst_n, Vi.oB_some, Vi.oP_some, Vi.oL_some, Vi.rdV_fz, Vi.rdV_ol, Vi.rdV2_some, Vi.mvV_ol, Vi.mvV_fz, Vi.rdVar_c, Vi.ev_var, Vi.ev_mv, Vi.ev_int, Vi.ev_bl, Vi.ev_non, Vi.ev_str, Vi.ev_gi, Vi.ev_gs, Vi.ev_bin, Vi.ev_neg, Vi.ev_cmp, Vi.evT_cmp, Vi.ev_chain, Vi.ev_one, Vi.andK_b, Vi.orK_b, Vi.notK_b, Vi.ev_and, Vi.ev_or, Vi.ev_not, Vi.isB_b, Vi.ev_ite, Vi.ev_tup, Vi.ev_lst, Vi.ev_ix, Vi.ev_slc, Vi.evP_no, Vi.evP_yes, Vi.ev_call, Vi.calK_some, Vi.calR_ok, Vi.evA_nil, Vi.evA_e, Vi.evA_o, Vi.args_nil, Vi.args_e, Vi.args_o, Vi.argK_s, Vi.asm_nil, Vi.asm_e, Vi.asm_o, Vi.asmK_s, Vi.lent_ol, Vi.lent_sc, Vi.lent_fz, Vi.put_nil, Vi.put_e, Vi.put_o, Vi.ev_blt, Vi.ev_isi, Vi.ev_lsc, Vi.lscK_s, Vi.cmpK_ok, Vi.ev_lc, Vi.evC_no, Vi.evC_yes, Vi.evI_e, Vi.evI_r1, Vi.evI_r2, Vi.evs_nil, Vi.evs_cons, Vi.evO_nil, Vi.evO_cons, Vi.olO_s, Vi.olOf_c, Vi.appK_s, Vi.appK2_s, Vi.ev_app, Vi.bwK_ok, Vi.ev_bw, Vi.bwK'_ok, Vi.evT_bw, Vi.evT_chain, Vi.evT_one, Vi.evT_and, Vi.evT_or, Vi.evT_not, Vi.evT_var, Vi.evT_call, Vi.evT_isi, Vi.evT_blt, Vi.evT_ix, Vi.evT_bin, Vi.evT_bl, Vi.ex_pass, Vi.ex_asg, Vi.ex_expr, Vi.ex_ret, Vi.ex_retN, Vi.ex_if, Vi.ex_for, Vi.setK_s, Vi.setK2_s, Vi.setK3_s, Vi.ex_set, Vi.ex_aug, Vi.ex_augS, Vi.augM, Vi.augSM, Vi.exs_nil, Vi.exs_cons, Vi.run_b, Vi.runK_ret, Vi.runK_nx, Vi.frzE_nil, Vi.frz_cons, Vi.frzK_ol, Vi.frzK2_s, Vi.frzK_fz, Vi.frzK_no, Vi.frzK_olI, Vi.rdV_olI, Vi.mvV_olI, Vi.olO_olI, Vi.lent_olI, Vi.closed_olI, Vi.dOf_fz, Vi.dOf_olI, Vi.dOf_olI', Vi.dsOf_fz, Vi.dsOf_ints, Vi.dsOf_nil, Vi.dsOf_cons, Option.map_some, Vi.binD, Vi.add_int, Vi.sub_int, Vi.cmpD, Vi.lt_int, Vi.le_int, Vi.gt_int, Vi.ge_int, Vi.neg_int, Vi.bf_len_l, Vi.bf_len_t, Vi.bf_len_s, Vi.bf_abs, Vi.bf_int, Vi.bf_intb, Vi.bf_max2, Vi.bf_min2, Vi.bf_list_l, Vi.bf_list_t, Vi.bf_tup_l, Vi.bf_sum, Vi.ix_l, Vi.ix_t, Vi.ix_s, Vi.isiD, Vi.chain2, Vi.iop_add, Vi.iop_sub, Vi.it_l, Vi.it_t, Vi.it_s, Vi.lentOk, Vi.outs_nil, Vi.outs_fz, Vi.outs_c, List.tail_cons, Vi.killE, Vi.noOwn, Vi.closed, Vi.closeds, Vi.closedD, Vi.closeds_ints, Vi.wipeE, Vi.resE, Vi.bd_nm, Vi.bd_tp, Vi.bdN, Vi.bdT, Vi.bdsN, Vi.bdNil, Vi.bdCons, Vi.Tg.js, Vi.partM, Vi.eq_int, Vi.eq_str, Vi.eq_bool, Vi.eq_ints, rho_law, d1, d2, d3, e1, e2, e3, hq1, a1, a3, this]
    · have := pt (q + r2) (by omega) (by omega)
      simp -implicitDefEqProofs [b_law_9, b_law_8, b_law_7, b_law_6, Vi.bind_ok, Vi.bind_bad, Vi.bind_ex, Vi.so_ok, Vi.sb_nx, Vi.sb_ret, Vi.sb_bad, Vi.d_fz, Vi.d_olI, Vi.d_ol, Vi.o_some, Vi.tst_b, Vi.tst_i, Vi.tst_l, Vi.tst_s, Vi.tst_n, Vi.oB_some, Vi.oP_some, Vi.oL_some, Vi.rdV_fz, Vi.rdV_ol, Vi.rdV2_some, Vi.mvV_ol, Vi.mvV_fz, Vi.rdVar_c, Vi.ev_var, Vi.ev_mv, Vi.ev_int, Vi.ev_bl, Vi.ev_non, Vi.ev_str, Vi.ev_gi, Vi.ev_gs, Vi.ev_bin, Vi.ev_neg, Vi.ev_cmp, Vi.evT_cmp, Vi.ev_chain, Vi.ev_one, Vi.andK_b, Vi.orK_b, Vi.notK_b, Vi.ev_and, Vi.ev_or, Vi.ev_not, Vi.isB_b, Vi.ev_ite, Vi.ev_tup, Vi.ev_lst, Vi.ev_ix, Vi.ev_slc, Vi.evP_no, Vi.evP_yes, Vi.ev_call, Vi.calK_some, Vi.calR_ok, Vi.evA_nil, Vi.evA_e, Vi.evA_o, Vi.args_nil, Vi.args_e, Vi.args_o, Vi.argK_s, Vi.asm_nil, Vi.asm_e, Vi.asm_o, Vi.asmK_s, Vi.lent_ol, Vi.lent_sc, Vi.lent_fz, Vi.put_nil, Vi.put_e, Vi.put_o, Vi.ev_blt, Vi.ev_isi, Vi.ev_lsc, Vi.lscK_s, Vi.cmpK_ok, Vi.ev_lc, Vi.evC_no, Vi.evC_yes, Vi.evI_e, Vi.evI_r1, Vi.evI_r2, Vi.evs_nil, Vi.evs_cons, Vi.evO_nil, Vi.evO_cons, Vi.olO_s, Vi.olOf_c, Vi.appK_s, Vi.appK2_s, Vi.ev_app, Vi.bwK_ok, Vi.ev_bw, Vi.bwK'_ok, Vi.evT_bw, Vi.evT_chain, Vi.evT_one, Vi.evT_and, Vi.evT_or, Vi.evT_not, Vi.evT_var, Vi.evT_call, Vi.evT_isi, Vi.evT_blt, Vi.evT_ix, Vi.evT_bin, Vi.evT_bl, Vi.ex_pass, Vi.ex_asg, Vi.ex_expr, Vi.ex_ret, Vi.ex_retN, Vi.ex_if, Vi.ex_for, Vi.setK_s, Vi.setK2_s, Vi.setK3_s, Vi.ex_set, Vi.ex_aug, Vi.ex_augS, Vi.augM, Vi.augSM, Vi.exs_nil, Vi.exs_cons, Vi.run_b, Vi.runK_ret, Vi.runK_nx, Vi.frzE_nil, Vi.frz_cons, Vi.frzK_ol, Vi.frzK2_s, Vi.frzK_fz, Vi.frzK_no, Vi.frzK_olI, Vi.rdV_olI, Vi.mvV_olI, Vi.olO_olI, Vi.lent_olI, Vi.closed_olI, Vi.dOf_fz, Vi.dOf_olI, Vi.dOf_olI', Vi.dsOf_fz, Vi.dsOf_ints, Vi.dsOf_nil, Vi.dsOf_cons, Option.map_some, Vi.binD, Vi.add_int, Vi.sub_int, Vi.cmpD, Vi.lt_int, Vi.le_int, Vi.gt_int, Vi.ge_int, Vi.neg_int, Vi.bf_len_l, Vi.bf_len_t, Vi.bf_len_s, Vi.bf_abs, Vi.bf_int, Vi.bf_intb, Vi.bf_max2, Vi.bf_min2, Vi.bf_list_l, Vi.bf_list_t, Vi.bf_tup_l, Vi.bf_sum, Vi.ix_l, Vi.ix_t, Vi.ix_s, Vi.isiD, Vi.chain2, Vi.iop_add, Vi.iop_sub, Vi.it_l, Vi.it_t, Vi.it_s, Vi.lentOk, Vi.outs_nil, Vi.outs_fz, Vi.outs_c, List.tail_cons, Vi.killE, Vi.noOwn, Vi.closed, Vi.closeds, Vi.closedD, Vi.closeds_ints, Vi.wipeE, Vi.resE, Vi.bd_nm, Vi.bd_tp, Vi.bdN, Vi.bdT, Vi.bdsN, Vi.bdNil, Vi.bdCons, Vi.Tg.js, Vi.partM, Vi.eq_int, Vi.eq_str, Vi.eq_bool, Vi.eq_ints, rho_law, d1, d2, d3, e1, e2, e3, hq1, c0, c1, this]
theorem part3 {env : List (Option OV)} {x : Option OV} : exs rho_law [0] b_law_1 (x :: env) = .ret (.fz (.bool true)) (x :: env) := by
  have r := ok_right (p := 1) (q := 1) (most := 1000) (by decide) (by decide) (by decide) (by decide) (by decide) (by decide)
  have w1 := ok_row (p := 1) (q := 1) (most := 3) (by decide) (by decide) (by decide) (by decide) (by decide) (by decide)
  have w2 := ok_rowB (p := 1) (q := 1) (most := 3) (by decide) (by decide) (by decide) (by decide) (by decide) (by decide)
  have w3 := ok_row (p := 3) (q := 2) (most := 7) (by decide) (by decide) (by decide) (by decide) (by decide) (by decide)
  have w4 := ok_rowB (p := 3) (q := 1) (most := 8) (by decide) (by decide) (by decide) (by decide) (by decide) (by decide)
  have w5 := ok_rowB (p := 3) (q := 2) (most := 6) (by decide) (by decide) (by decide) (by decide) (by decide) (by decide)
  rw [show row 1 1 3 = [1, 2, 3] by decide] at w1
  rw [show rowB 1 1 3 = [1, 2, 3] by decide] at w2
  rw [show row 3 2 7 = [1, 3, 4, 6, 7] by decide] at w3
  rw [show rowB 3 1 8 = [2, 5, 8] by decide] at w4
  rw [show rowB 3 2 6 = [1, 2, 4, 5] by decide] at w5
  have q1 : eqD (.list [.int 1, .int 2, .int 3]) (.list [.int 1, .int 2, .int 3]) = some true := eq_ints (a := [1, 2, 3]) (b := [1, 2, 3])
  have q3 : eqD (.list [.int 1, .int 3, .int 4, .int 6, .int 7]) (.list [.int 1, .int 3, .int 4, .int 6, .int 7]) = some true := eq_ints (a := [1, 3, 4, 6, 7]) (b := [1, 3, 4, 6, 7])
  have q4 : eqD (.list [.int 2, .int 5, .int 8]) (.list [.int 2, .int 5, .int 8]) = some true := eq_ints (a := [2, 5, 8]) (b := [2, 5, 8])
  have q5 : eqD (.list [.int 1, .int 2, .int 4, .int 5]) (.list [.int 1, .int 2, .int 4, .int 5]) = some true := eq_ints (a := [1, 2, 4, 5]) (b := [1, 2, 4, 5])
  have z3 : 3 ≤ sizeLine := by decide
  have z4 : 4 ≤ sizeLine := by decide
  have z5 : 5 ≤ sizeLine := by decide
  simp -implicitDefEqProofs [b_law_1, b_law_0, Vi.bind_ok, Vi.bind_bad, Vi.bind_ex, Vi.so_ok, Vi.sb_nx, Vi.sb_ret, Vi.sb_bad, Vi.d_fz, Vi.d_olI, Vi.d_ol, Vi.o_some, Vi.tst_b, Vi.tst_i, Vi.tst_l, Vi.tst_s, Vi.tst_n, Vi.oB_some, Vi.oP_some, Vi.oL_some, Vi.rdV_fz, Vi.rdV_ol, Vi.rdV2_some, Vi.mvV_ol, Vi.mvV_fz, Vi.rdVar_c, Vi.ev_var, Vi.ev_mv, Vi.ev_int, Vi.ev_bl, Vi.ev_non, Vi.ev_str, Vi.ev_gi, Vi.ev_gs, Vi.ev_bin, Vi.ev_neg, Vi.ev_cmp, Vi.evT_cmp, Vi.ev_chain, Vi.ev_one, Vi.andK_b, Vi.orK_b, Vi.notK_b, Vi.ev_and, Vi.ev_or, Vi.ev_not, Vi.isB_b, Vi.ev_ite, Vi.ev_tup, Vi.ev_lst, Vi.ev_ix, Vi.ev_slc, Vi.evP_no, Vi.evP_yes, Vi.ev_call, Vi.calK_some, Vi.calR_ok, Vi.evA_nil, Vi.evA_e, Vi.evA_o, Vi.args_nil, Vi.args_e, Vi.args_o, Vi.argK_s, Vi.asm_nil, Vi.asm_e, Vi.asm_o, Vi.asmK_s, Vi.lent_ol, Vi.lent_sc, Vi.lent_fz, Vi.put_nil, Vi.put_e, Vi.put_o, Vi.ev_blt, Vi.ev_isi, Vi.ev_lsc, Vi.lscK_s, Vi.cmpK_ok, Vi.ev_lc, Vi.evC_no, Vi.evC_yes, Vi.evI_e, Vi.evI_r1, Vi.evI_r2, Vi.evs_nil, Vi.evs_cons, Vi.evO_nil, Vi.evO_cons, Vi.olO_s, Vi.olOf_c, Vi.appK_s, Vi.appK2_s, Vi.ev_app, Vi.bwK_ok, Vi.ev_bw, Vi.bwK'_ok, Vi.evT_bw, Vi.evT_chain, Vi.evT_one, Vi.evT_and, Vi.evT_or, Vi.evT_not, Vi.evT_var, Vi.evT_call, Vi.evT_isi, Vi.evT_blt, Vi.evT_ix, Vi.evT_bin, Vi.evT_bl, Vi.ex_pass, Vi.ex_asg, Vi.ex_expr, Vi.ex_ret, Vi.ex_retN, Vi.ex_if, Vi.ex_for, Vi.setK_s, Vi.setK2_s, Vi.setK3_s, Vi.ex_set, Vi.ex_aug, Vi.ex_augS, Vi.augM, Vi.augSM, Vi.exs_nil, Vi.exs_cons, Vi.run_b, Vi.runK_ret, Vi.runK_nx, Vi.frzE_nil, Vi.frz_cons, Vi.frzK_ol, Vi.frzK2_s, Vi.frzK_fz, Vi.frzK_no, Vi.frzK_olI, Vi.rdV_olI, Vi.mvV_olI, Vi.olO_olI, Vi.lent_olI, Vi.closed_olI, Vi.dOf_fz, Vi.dOf_olI, Vi.dOf_olI', Vi.dsOf_fz, Vi.dsOf_ints, Vi.dsOf_nil, Vi.dsOf_cons, Option.map_some, Vi.binD, Vi.add_int, Vi.sub_int, Vi.cmpD, Vi.lt_int, Vi.le_int, Vi.gt_int, Vi.ge_int, Vi.neg_int, Vi.bf_len_l, Vi.bf_len_t, Vi.bf_len_s, Vi.bf_abs, Vi.bf_int, Vi.bf_intb, Vi.bf_max2, Vi.bf_min2, Vi.bf_list_l, Vi.bf_list_t, Vi.bf_tup_l, Vi.bf_sum, Vi.ix_l, Vi.ix_t, Vi.ix_s, Vi.isiD, Vi.chain2, Vi.iop_add, Vi.iop_sub, Vi.it_l, Vi.it_t, Vi.it_s, Vi.lentOk, Vi.outs_nil, Vi.outs_fz, Vi.outs_c, List.tail_cons, Vi.killE, Vi.noOwn, Vi.closed, Vi.closeds, Vi.closedD, Vi.closeds_ints, Vi.wipeE, Vi.resE, Vi.bd_nm, Vi.bd_tp, Vi.bdN, Vi.bdT, Vi.bdsN, Vi.bdNil, Vi.bdCons, Vi.Tg.js, Vi.partM, Vi.eq_int, Vi.eq_str, Vi.eq_bool, Vi.eq_ints, rho_law, r, w1, w2, w3, w4, w5, q1, q3, q4, q5, z3, z4, z5]
end
theorem law_true (ns : List Int) (h : ns.length ≤ 63) : ∃ outs, den_law [.sc ns] = .ok (.fz (.bool true)) outs := by
  obtain ⟨o, a, hf, f0⟩ := feed_ok ns h
  have hf : den__law_feed [.sc ns] = .ok o [a] := hf
  have rr : rngD [.int 3] = some ((rgI 0 3).map .int) := by rw [← rngL_eq]; exact rng_1 (by decide) (by decide)
  obtain ⟨env, f1, b, o', t, q, p, k, m, mn, fo, f2⟩ := forL_inv (bd := bdG (.nm 2)) (mb := exs rho_law [0] b_law_9) (g := PyData.int) (fun _ env => ∃ (b : Option OV) (o' : OV) (t q p k m mn : Option OV), IsFeed o' ∧ env = [b, some o', t, q, p, k, m, mn]) (rgI 0 3) [] [a, some o, none, none, none, none, none, none] ⟨a, o, none, none, none, none, none, none, f0, rfl⟩
    (by
      rintro d x r env _ ⟨b, o', t, q, p, k, m, mn, fo, rfl⟩
      obtain ⟨o2, t', q', p', k', m', mn', fo', h⟩ := part1 (a := b) (t := some (.fz (.int x))) (q0 := q) (p0 := p) (k := k) (m0 := m) (mn := mn) fo
      exact ⟨[b, some o', some (.fz (.int x)), q, p, k, m, mn], _, by simp [Vi.bind_ok, Vi.bind_bad, Vi.bind_ex, Vi.so_ok, Vi.sb_nx, Vi.sb_ret, Vi.sb_bad, Vi.d_fz, Vi.d_olI, Vi.d_ol, Vi.o_some, Vi.tst_b, Vi.tst_i, Vi.tst_l, Vi.tst_s, Vi.tst_n, Vi.oB_some, Vi.oP_some, Vi.oL_some, Vi.rdV_fz, Vi.rdV_ol, Vi.rdV2_some, Vi.mvV_ol, Vi.mvV_fz, Vi.rdVar_c, Vi.ev_var, Vi.ev_mv, Vi.ev_int, Vi.ev_bl, Vi.ev_non, Vi.ev_str, Vi.ev_gi, Vi.ev_gs, Vi.ev_bin, Vi.ev_neg, Vi.ev_cmp, Vi.evT_cmp, Vi.ev_chain, Vi.ev_one, Vi.andK_b, Vi.orK_b, Vi.notK_b, Vi.ev_and, Vi.ev_or, Vi.ev_not, Vi.isB_b, Vi.ev_ite, Vi.ev_tup, Vi.ev_lst, Vi.ev_ix, Vi.ev_slc, Vi.evP_no, Vi.evP_yes, Vi.ev_call, Vi.calK_some, Vi.calR_ok, Vi.evA_nil, Vi.evA_e, Vi.evA_o, Vi.args_nil, Vi.args_e, Vi.args_o, Vi.argK_s, Vi.asm_nil, Vi.asm_e, Vi.asm_o, Vi.asmK_s, Vi.lent_ol, Vi.lent_sc, Vi.lent_fz, Vi.put_nil, Vi.put_e, Vi.put_o, Vi.ev_blt, Vi.ev_isi, Vi.ev_lsc, Vi.lscK_s, Vi.cmpK_ok, Vi.ev_lc, Vi.evC_no, Vi.evC_yes, Vi.evI_e, Vi.evI_r1, Vi.evI_r2, Vi.evs_nil, Vi.evs_cons, Vi.evO_nil, Vi.evO_cons, Vi.olO_s, Vi.olOf_c, Vi.appK_s, Vi.appK2_s, Vi.ev_app, Vi.bwK_ok, Vi.ev_bw, Vi.bwK'_ok, Vi.evT_bw, Vi.evT_chain, Vi.evT_one, Vi.evT_and, Vi.evT_or, Vi.evT_not, Vi.evT_var, Vi.evT_call, Vi.evT_isi, Vi.evT_blt, Vi.evT_ix, Vi.evT_bin, Vi.evT_bl, Vi.ex_pass, Vi.ex_asg, Vi.ex_expr, Vi.ex_ret, Vi.ex_retN, Vi.ex_if, Vi.ex_for, Vi.setK_s, Vi.setK2_s, Vi.setK3_s, Vi.ex_set, Vi.ex_aug, Vi.ex_augS, Vi.augM, Vi.augSM, Vi.exs_nil, Vi.exs_cons, Vi.run_b, Vi.runK_ret, Vi.runK_nx, Vi.frzE_nil, Vi.frz_cons, Vi.frzK_ol, Vi.frzK2_s, Vi.frzK_fz, Vi.frzK_no, Vi.frzK_olI, Vi.rdV_olI, Vi.mvV_olI, Vi.olO_olI, Vi.lent_olI, Vi.closed_olI, Vi.dOf_fz, Vi.dOf_olI, Vi.dOf_olI', Vi.dsOf_fz, Vi.dsOf_ints, Vi.dsOf_nil, Vi.dsOf_cons, Option.map_some, Vi.binD, Vi.add_int, Vi.sub_int, Vi.cmpD, Vi.lt_int, Vi.le_int, Vi.gt_int, Vi.ge_int, Vi.neg_int, Vi.bf_len_l, Vi.bf_len_t, Vi.bf_len_s, Vi.bf_abs, Vi.bf_int, Vi.bf_intb, Vi.bf_max2, Vi.bf_min2, Vi.bf_list_l, Vi.bf_list_t, Vi.bf_tup_l, Vi.bf_sum, Vi.ix_l, Vi.ix_t, Vi.ix_s, Vi.isiD, Vi.chain2, Vi.iop_add, Vi.iop_sub, Vi.it_l, Vi.it_t, Vi.it_s, Vi.lentOk, Vi.outs_nil, Vi.outs_fz, Vi.outs_c, List.tail_cons, Vi.killE, Vi.noOwn, Vi.closed, Vi.closeds, Vi.closedD, Vi.closeds_ints, Vi.wipeE, Vi.resE, Vi.bd_nm, Vi.bd_tp, Vi.bdN, Vi.bdT, Vi.bdsN, Vi.bdNil, Vi.bdCons, Vi.Tg.js, Vi.partM, Vi.eq_int, Vi.eq_str, Vi.eq_bool, Vi.eq_ints], h, b, o2, t', q', p', k', m', mn', fo', rfl⟩)
  subst f2
  have h3 := part3 (x := b) (env := [some o', t, q, p, k, m, mn])
  exact ⟨[b], by simp -implicitDefEqProofs [den_law, bod_law, b_law_11, b_law_10, Vi.bind_ok, Vi.bind_bad, Vi.bind_ex, Vi.so_ok, Vi.sb_nx, Vi.sb_ret, Vi.sb_bad, Vi.d_fz, Vi.d_olI, Vi.d_ol, Vi.o_some, Vi.tst_b, Vi.tst_i, Vi.tst_l, Vi.tst_s, Vi.tst_n, Vi.oB_some, Vi.oP_some, Vi.oL_some, Vi.rdV_fz, Vi.rdV_ol, Vi.rdV2_some, Vi.mvV_ol, Vi.mvV_fz, Vi.rdVar_c, Vi.ev_var, Vi.ev_mv, Vi.ev_int, Vi.ev_bl, Vi.ev_non, Vi.ev_str, Vi.ev_gi, Vi.ev_gs, Vi.ev_bin, Vi.ev_neg, Vi.ev_cmp, Vi.evT_cmp, Vi.ev_chain, Vi.ev_one, Vi.andK_b, Vi.orK_b, Vi.notK_b, Vi.ev_and, Vi.ev_or, Vi.ev_not, Vi.isB_b, Vi.ev_ite, Vi.ev_tup, Vi.ev_lst, Vi.ev_ix, Vi.ev_slc, Vi.evP_no, Vi.evP_yes, Vi.ev_call, Vi.calK_some, Vi.calR_ok, Vi.evA_nil, Vi.evA_e, Vi.evA_o, Vi.args_nil, Vi.args_e, Vi.args_o, Vi.argK_s, Vi.asm_nil, Vi.asm_e, Vi.asm_o, Vi.asmK_s, Vi.lent_ol, Vi.lent_sc, Vi.lent_fz, Vi.put_nil, Vi.put_e, Vi.put_o, Vi.ev_blt, Vi.ev_isi, Vi.ev_lsc, Vi.lscK_s, Vi.cmpK_ok, Vi.ev_lc, Vi.evC_no, Vi.evC_yes, Vi.evI_e, Vi.evI_r1, Vi.evI_r2, Vi.evs_nil, Vi.evs_cons, Vi.evO_nil, Vi.evO_cons, Vi.olO_s, Vi.olOf_c, Vi.appK_s, Vi.appK2_s, Vi.ev_app, Vi.bwK_ok, Vi.ev_bw, Vi.bwK'_ok, Vi.evT_bw, Vi.evT_chain, Vi.evT_one, Vi.evT_and, Vi.evT_or, Vi.evT_not, Vi.evT_var, Vi.evT_call, Vi.evT_isi, Vi.evT_blt, Vi.evT_ix, Vi.evT_bin, Vi.evT_bl, Vi.ex_pass, Vi.ex_asg, Vi.ex_expr, Vi.ex_ret, Vi.ex_retN, Vi.ex_if, Vi.ex_for, Vi.setK_s, Vi.setK2_s, Vi.setK3_s, Vi.ex_set, Vi.ex_aug, Vi.ex_augS, Vi.augM, Vi.augSM, Vi.exs_nil, Vi.exs_cons, Vi.run_b, Vi.runK_ret, Vi.runK_nx, Vi.frzE_nil, Vi.frz_cons, Vi.frzK_ol, Vi.frzK2_s, Vi.frzK_fz, Vi.frzK_no, Vi.frzK_olI, Vi.rdV_olI, Vi.mvV_olI, Vi.olO_olI, Vi.lent_olI, Vi.closed_olI, Vi.dOf_fz, Vi.dOf_olI, Vi.dOf_olI', Vi.dsOf_fz, Vi.dsOf_ints, Vi.dsOf_nil, Vi.dsOf_cons, Option.map_some, Vi.binD, Vi.add_int, Vi.sub_int, Vi.cmpD, Vi.lt_int, Vi.le_int, Vi.gt_int, Vi.ge_int, Vi.neg_int, Vi.bf_len_l, Vi.bf_len_t, Vi.bf_len_s, Vi.bf_abs, Vi.bf_int, Vi.bf_intb, Vi.bf_max2, Vi.bf_min2, Vi.bf_list_l, Vi.bf_list_t, Vi.bf_tup_l, Vi.bf_sum, Vi.ix_l, Vi.ix_t, Vi.ix_s, Vi.isiD, Vi.chain2, Vi.iop_add, Vi.iop_sub, Vi.it_l, Vi.it_t, Vi.it_s, Vi.lentOk, Vi.outs_nil, Vi.outs_fz, Vi.outs_c, List.tail_cons, Vi.killE, Vi.noOwn, Vi.closed, Vi.closeds, Vi.closedD, Vi.closeds_ints, Vi.wipeE, Vi.resE, Vi.bd_nm, Vi.bd_tp, Vi.bdN, Vi.bdT, Vi.bdsN, Vi.bdNil, Vi.bdCons, Vi.Tg.js, Vi.partM, Vi.eq_int, Vi.eq_str, Vi.eq_bool, Vi.eq_ints, rho_law, hf, rr, f1, h3]⟩
end K69

set_option Elab.async false
set_option linter.all false
set_option maxRecDepth 100000
set_option maxHeartbeats 4000000
namespace K69
open PySem Vi L2
def top (i : Nat) : Stmt := PySem.Challenge.pw_turnedstretches_k69_rows_rounded_down_an.main.body.getD i (.Pass ⟨0, 0, 0, 0⟩)
abbrev s_is_step : Stmt := top 1
theorem sc_is_step : FnScope tab_is_step.N ["p", "q", "m"] (defScope s_is_step) := ⟨rfl, rfl, rfl, by decide +kernel, rfl, by decide +kernel, by decide +kernel⟩
theorem mm_is_step : mSs tab_is_step (defScope s_is_step) (fun _ => true) bod_is_step (defBody s_is_step) = true := by decide +kernel
abbrev s_is_step_below : Stmt := top 2
theorem sc_is_step_below : FnScope tab_is_step_below.N ["p", "q", "m"] (defScope s_is_step_below) := ⟨rfl, rfl, rfl, by decide +kernel, rfl, by decide +kernel, by decide +kernel⟩
theorem mm_is_step_below : mSs tab_is_step_below (defScope s_is_step_below) (fun _ => true) bod_is_step_below (defBody s_is_step_below) = true := by decide +kernel
abbrev s_steps_row : Stmt := top 3
theorem sc_steps_row : FnScope tab_steps_row.N ["p", "q", "most"] (defScope s_steps_row) := ⟨rfl, rfl, rfl, by decide +kernel, rfl, by decide +kernel, by decide +kernel⟩
theorem mm_steps_row : mSs tab_steps_row (defScope s_steps_row) (fun _ => true) bod_steps_row (defBody s_steps_row) = true := by decide +kernel
abbrev s_steps_row_below : Stmt := top 4
theorem sc_steps_row_below : FnScope tab_steps_row_below.N ["p", "q", "most"] (defScope s_steps_row_below) := ⟨rfl, rfl, rfl, by decide +kernel, rfl, by decide +kernel, by decide +kernel⟩
theorem mm_steps_row_below : mSs tab_steps_row_below (defScope s_steps_row_below) (fun _ => true) bod_steps_row_below (defBody s_steps_row_below) = true := by decide +kernel
abbrev s__law_feed : Stmt := top 6
theorem sc__law_feed : FnScope tab__law_feed.N ["script"] (defScope s__law_feed) := ⟨rfl, rfl, rfl, by decide +kernel, rfl, by decide +kernel, by decide +kernel⟩
theorem mm__law_feed : mSs tab__law_feed (defScope s__law_feed) (fun _ => true) bod__law_feed (defBody s__law_feed) = true := by decide +kernel
abbrev s__law_draw : Stmt := top 7
theorem sc__law_draw : FnScope tab__law_draw.N ["feed", "many"] (defScope s__law_draw) := ⟨rfl, rfl, rfl, by decide +kernel, rfl, by decide +kernel, by decide +kernel⟩
theorem mm__law_draw : mSs tab__law_draw (defScope s__law_draw) (fun _ => true) bod__law_draw (defBody s__law_draw) = true := by decide +kernel
abbrev s__law_is_whole : Stmt := top 8
theorem sc__law_is_whole : FnScope tab__law_is_whole.N ["x"] (defScope s__law_is_whole) := ⟨rfl, rfl, rfl, by decide +kernel, rfl, by decide +kernel, by decide +kernel⟩
theorem mm__law_is_whole : mSs tab__law_is_whole (defScope s__law_is_whole) (fun _ => true) bod__law_is_whole (defBody s__law_is_whole) = true := by decide +kernel
abbrev s__law_down : Stmt := top 9
theorem sc__law_down : FnScope tab__law_down.N ["p", "q", "most"] (defScope s__law_down) := ⟨rfl, rfl, rfl, by decide +kernel, rfl, by decide +kernel, by decide +kernel⟩
theorem mm__law_down : mSs tab__law_down (defScope s__law_down) (fun _ => true) bod__law_down (defBody s__law_down) = true := by decide +kernel
abbrev s__law_below : Stmt := top 10
theorem sc__law_below : FnScope tab__law_below.N ["p", "q", "most"] (defScope s__law_below) := ⟨rfl, rfl, rfl, by decide +kernel, rfl, by decide +kernel, by decide +kernel⟩
theorem mm__law_below : mSs tab__law_below (defScope s__law_below) (fun _ => true) bod__law_below (defBody s__law_below) = true := by decide +kernel
abbrev s__law_told : Stmt := top 11
theorem sc__law_told : FnScope tab__law_told.N ["told", "due"] (defScope s__law_told) := ⟨rfl, rfl, rfl, by decide +kernel, rfl, by decide +kernel, by decide +kernel⟩
theorem mm__law_told : mSs tab__law_told (defScope s__law_told) (fun _ => true) bod__law_told (defBody s__law_told) = true := by decide +kernel
abbrev s__law_right : Stmt := top 12
theorem sc__law_right : FnScope tab__law_right.N ["p", "q", "most"] (defScope s__law_right) := ⟨rfl, rfl, rfl, by decide +kernel, rfl, by decide +kernel, by decide +kernel⟩
theorem mm__law_right : mSs tab__law_right (defScope s__law_right) (fun _ => true) bod__law_right (defBody s__law_right) = true := by decide +kernel
abbrev s_law : Stmt := top 13
theorem sc_law : FnScope tab_law.N ["script"] (defScope s_law) := ⟨rfl, rfl, rfl, by decide +kernel, rfl, by decide +kernel, by decide +kernel⟩
theorem mm_law : mSs tab_law (defScope s_law) (fun _ => true) bod_law (defBody s_law) = true := by decide +kernel
theorem all_mk {l : PySem.W.OpenLaw} {w : World} {K : PySem.W.Frag} {h : Heap} {mg : Str → Option Value} {fa : Addr} (X : K.In h) (G : h.Ns mainGlobals mg) (hfa : mg "law" = some (.ref fa))
    {f0 : Addr} {od0 an0 : Option Addr} {sl0 : Array (Option Value)} {oc0 kV0 dc0 pm0 cd0 ct0 : Value}
    {f1 : Addr} {od1 an1 : Option Addr} {sl1 : Array (Option Value)} {oc1 kV1 dc1 pm1 cd1 ct1 : Value}
    {f2 : Addr} {od2 an2 : Option Addr} {sl2 : Array (Option Value)} {oc2 kV2 dc2 pm2 cd2 ct2 : Value}
    {f3 : Addr} {od3 an3 : Option Addr} {sl3 : Array (Option Value)} {oc3 kV3 dc3 pm3 cd3 ct3 : Value}
    {f4 : Addr} {od4 an4 : Option Addr} {sl4 : Array (Option Value)} {oc4 kV4 dc4 pm4 cd4 ct4 : Value}
    {f5 : Addr} {od5 an5 : Option Addr} {sl5 : Array (Option Value)} {oc5 kV5 dc5 pm5 cd5 ct5 : Value}
    {f6 : Addr} {od6 an6 : Option Addr} {sl6 : Array (Option Value)} {oc6 kV6 dc6 pm6 cd6 ct6 : Value}
    {f7 : Addr} {od7 an7 : Option Addr} {sl7 : Array (Option Value)} {oc7 kV7 dc7 pm7 cd7 ct7 : Value}
    {f8 : Addr} {od8 an8 : Option Addr} {sl8 : Array (Option Value)} {oc8 kV8 dc8 pm8 cd8 ct8 : Value}
    {f9 : Addr} {od9 an9 : Option Addr} {sl9 : Array (Option Value)} {oc9 kV9 dc9 pm9 cd9 ct9 : Value}
    {f10 : Addr} {od10 an10 : Option Addr} {sl10 : Array (Option Value)} {oc10 kV10 dc10 pm10 cd10 ct10 : Value}
    {f11 : Addr} {od11 an11 : Option Addr} {sl11 : Array (Option Value)} {oc11 kV11 dc11 pm11 cd11 ct11 : Value}
    (a0 : PySem.W.nsIn K mainGlobals "is_step" = some (some (.ref f0)))
    (l0 : K.lookup f0 = some ⟨oc0, od0, .func (PySem.W.fnOf "is_step" "is_step" (defArgs s_is_step) (defBody s_is_step) (defScope s_is_step) .none kV0 dc0 pm0 an0 cd0 ct0), sl0⟩)
    (c0 : PySem.W.codeIn K cd0 "is_step" = true)
    (k0 : PySem.W.keepIn K (.ref f0) = true)
    (a1 : PySem.W.nsIn K mainGlobals "is_step_below" = some (some (.ref f1)))
    (l1 : K.lookup f1 = some ⟨oc1, od1, .func (PySem.W.fnOf "is_step_below" "is_step_below" (defArgs s_is_step_below) (defBody s_is_step_below) (defScope s_is_step_below) .none kV1 dc1 pm1 an1 cd1 ct1), sl1⟩)
    (c1 : PySem.W.codeIn K cd1 "is_step_below" = true)
    (k1 : PySem.W.keepIn K (.ref f1) = true)
    (a2 : PySem.W.nsIn K mainGlobals "steps_row" = some (some (.ref f2)))
    (l2 : K.lookup f2 = some ⟨oc2, od2, .func (PySem.W.fnOf "steps_row" "steps_row" (defArgs s_steps_row) (defBody s_steps_row) (defScope s_steps_row) .none kV2 dc2 pm2 an2 cd2 ct2), sl2⟩)
    (c2 : PySem.W.codeIn K cd2 "steps_row" = true)
    (k2 : PySem.W.keepIn K (.ref f2) = true)
    (a3 : PySem.W.nsIn K mainGlobals "steps_row_below" = some (some (.ref f3)))
    (l3 : K.lookup f3 = some ⟨oc3, od3, .func (PySem.W.fnOf "steps_row_below" "steps_row_below" (defArgs s_steps_row_below) (defBody s_steps_row_below) (defScope s_steps_row_below) .none kV3 dc3 pm3 an3 cd3 ct3), sl3⟩)
    (c3 : PySem.W.codeIn K cd3 "steps_row_below" = true)
    (k3 : PySem.W.keepIn K (.ref f3) = true)
    (a4 : PySem.W.nsIn K mainGlobals "_law_feed" = some (some (.ref f4)))
    (l4 : K.lookup f4 = some ⟨oc4, od4, .func (PySem.W.fnOf "_law_feed" "_law_feed" (defArgs s__law_feed) (defBody s__law_feed) (defScope s__law_feed) .none kV4 dc4 pm4 an4 cd4 ct4), sl4⟩)
    (c4 : PySem.W.codeIn K cd4 "_law_feed" = true)
    (k4 : PySem.W.keepIn K (.ref f4) = true)
    (a5 : PySem.W.nsIn K mainGlobals "_law_draw" = some (some (.ref f5)))
    (l5 : K.lookup f5 = some ⟨oc5, od5, .func (PySem.W.fnOf "_law_draw" "_law_draw" (defArgs s__law_draw) (defBody s__law_draw) (defScope s__law_draw) .none kV5 dc5 pm5 an5 cd5 ct5), sl5⟩)
    (c5 : PySem.W.codeIn K cd5 "_law_draw" = true)
    (k5 : PySem.W.keepIn K (.ref f5) = true)
    (a6 : PySem.W.nsIn K mainGlobals "_law_is_whole" = some (some (.ref f6)))
    (l6 : K.lookup f6 = some ⟨oc6, od6, .func (PySem.W.fnOf "_law_is_whole" "_law_is_whole" (defArgs s__law_is_whole) (defBody s__law_is_whole) (defScope s__law_is_whole) .none kV6 dc6 pm6 an6 cd6 ct6), sl6⟩)
    (c6 : PySem.W.codeIn K cd6 "_law_is_whole" = true)
    (k6 : PySem.W.keepIn K (.ref f6) = true)
    (a7 : PySem.W.nsIn K mainGlobals "_law_down" = some (some (.ref f7)))
    (l7 : K.lookup f7 = some ⟨oc7, od7, .func (PySem.W.fnOf "_law_down" "_law_down" (defArgs s__law_down) (defBody s__law_down) (defScope s__law_down) .none kV7 dc7 pm7 an7 cd7 ct7), sl7⟩)
    (c7 : PySem.W.codeIn K cd7 "_law_down" = true)
    (k7 : PySem.W.keepIn K (.ref f7) = true)
    (a8 : PySem.W.nsIn K mainGlobals "_law_below" = some (some (.ref f8)))
    (l8 : K.lookup f8 = some ⟨oc8, od8, .func (PySem.W.fnOf "_law_below" "_law_below" (defArgs s__law_below) (defBody s__law_below) (defScope s__law_below) .none kV8 dc8 pm8 an8 cd8 ct8), sl8⟩)
    (c8 : PySem.W.codeIn K cd8 "_law_below" = true)
    (k8 : PySem.W.keepIn K (.ref f8) = true)
    (a9 : PySem.W.nsIn K mainGlobals "_law_told" = some (some (.ref f9)))
    (l9 : K.lookup f9 = some ⟨oc9, od9, .func (PySem.W.fnOf "_law_told" "_law_told" (defArgs s__law_told) (defBody s__law_told) (defScope s__law_told) .none kV9 dc9 pm9 an9 cd9 ct9), sl9⟩)
    (c9 : PySem.W.codeIn K cd9 "_law_told" = true)
    (k9 : PySem.W.keepIn K (.ref f9) = true)
    (a10 : PySem.W.nsIn K mainGlobals "_law_right" = some (some (.ref f10)))
    (l10 : K.lookup f10 = some ⟨oc10, od10, .func (PySem.W.fnOf "_law_right" "_law_right" (defArgs s__law_right) (defBody s__law_right) (defScope s__law_right) .none kV10 dc10 pm10 an10 cd10 ct10), sl10⟩)
    (c10 : PySem.W.codeIn K cd10 "_law_right" = true)
    (k10 : PySem.W.keepIn K (.ref f10) = true)
    (a11 : PySem.W.nsIn K mainGlobals "law" = some (some (.ref f11)))
    (l11 : K.lookup f11 = some ⟨oc11, od11, .func (PySem.W.fnOf "law" "law" (defArgs s_law) (defBody s_law) (defScope s_law) .none kV11 dc11 pm11 an11 cd11 ct11), sl11⟩)
    (c11 : PySem.W.codeIn K cd11 "law" = true)
    (k11 : PySem.W.keepIn K (.ref f11) = true)
    (z0 : PySem.W.nsIn K mainGlobals "range" = some none)
    (z1 : PySem.W.nsIn K mainGlobals "list" = some none)
    (z2 : PySem.W.nsIn K mainGlobals "int" = some none)
    (z3 : PySem.W.nsIn K mainGlobals "len" = some none)
    (z4 : PySem.W.nsIn K mainGlobals "abs" = some none)
    (z5 : PySem.W.nsIn K mainGlobals "isinstance" = some none)
    (z6 : PySem.W.nsIn K mainGlobals "bool" = some none)
    : ∃ fd : FuncData, (∀ (s : Shared) (v : Value), BindsTo s fd ⟨[v], []⟩ [("script", v)]) ∧ ∀ base : Heap, K.In base → base.Ns mainGlobals mg → FnOk l.prog w K mg base (L2.CX l.prog w) 12 fa fd ["script"] (spOf K (fun _ _ _ _ => False) 1 den_law) := by
  have e := hfa.symm.trans (PySem.W.mg_of X G a11)
  cases e
  refine ⟨PySem.W.fnOf "law" "law" (defArgs s_law) (defBody s_law) (defScope s_law) .none kV11 dc11 pm11 an11 cd11 ct11, fun s v => .of_eq rfl, fun base _ _ => ?_⟩
  have F0 := fun_mk (st := s_is_step) l0 c0 k0
  have m0 : FnM l.prog w K mg base (fun _ _ _ _ => False) 1 "is_step" 3 den_is_step := def_m (k := 0) (T := tab_is_step) (body := bod_is_step) (ρ := rho_is_step) F0 (PySem.W.mg_of X G a0) (F0.binds (ps := ["p", "q", "m"]) fun _ _ _ _ _ _ us hl => match us, hl with | [_, _, _], _ => rfl) sc_is_step mm_is_step trivial trivial trivial trivial
  have F1 := fun_mk (st := s_is_step_below) l1 c1 k1
  have m1 : FnM l.prog w K mg base (fun _ _ _ _ => False) 2 "is_step_below" 3 den_is_step_below := def_m (k := 1) (T := tab_is_step_below) (body := bod_is_step_below) (ρ := rho_is_step_below) F1 (PySem.W.mg_of X G a1) (F1.binds (ps := ["p", "q", "m"]) fun _ _ _ _ _ _ us hl => match us, hl with | [_, _, _], _ => rfl) sc_is_step_below mm_is_step_below trivial trivial trivial trivial
  have F2 := fun_mk (st := s_steps_row) l2 c2 k2
  have m2 : FnM l.prog w K mg base (fun _ _ _ _ => False) 3 "steps_row" 3 den_steps_row := def_m (k := 2) (T := tab_steps_row) (body := bod_steps_row) (ρ := rho_steps_row) F2 (PySem.W.mg_of X G a2) (F2.binds (ps := ["p", "q", "most"]) fun _ _ _ _ _ _ us hl => match us, hl with | [_, _, _], _ => rfl) sc_steps_row mm_steps_row ⟨⟨1, by decide, m0⟩, trivial⟩ ⟨PySem.W.mg_none_of X G z0, trivial⟩ trivial trivial
  have F3 := fun_mk (st := s_steps_row_below) l3 c3 k3
  have m3 : FnM l.prog w K mg base (fun _ _ _ _ => False) 4 "steps_row_below" 3 den_steps_row_below := def_m (k := 3) (T := tab_steps_row_below) (body := bod_steps_row_below) (ρ := rho_steps_row_below) F3 (PySem.W.mg_of X G a3) (F3.binds (ps := ["p", "q", "most"]) fun _ _ _ _ _ _ us hl => match us, hl with | [_, _, _], _ => rfl) sc_steps_row_below mm_steps_row_below ⟨⟨2, by decide, m1⟩, trivial⟩ ⟨PySem.W.mg_none_of X G z0, trivial⟩ trivial trivial
  have F4 := fun_mk (st := s__law_feed) l4 c4 k4
  have m4 : FnM l.prog w K mg base (fun _ _ _ _ => False) 5 "_law_feed" 1 den__law_feed := def_m (k := 4) (T := tab__law_feed) (body := bod__law_feed) (ρ := rho__law_feed) F4 (PySem.W.mg_of X G a4) (F4.binds (ps := ["script"]) fun _ _ _ _ _ _ us hl => match us, hl with | [_], _ => rfl) sc__law_feed mm__law_feed trivial ⟨PySem.W.mg_none_of X G z1, trivial⟩ trivial trivial
  have F5 := fun_mk (st := s__law_draw) l5 c5 k5
  have m5 : FnM l.prog w K mg base (fun _ _ _ _ => False) 6 "_law_draw" 2 den__law_draw := def_m (k := 5) (T := tab__law_draw) (body := bod__law_draw) (ρ := rho__law_draw) F5 (PySem.W.mg_of X G a5) (F5.binds (ps := ["feed", "many"]) fun _ _ _ _ _ _ us hl => match us, hl with | [_, _], _ => rfl) sc__law_draw mm__law_draw trivial ⟨PySem.W.mg_none_of X G z2, PySem.W.mg_none_of X G z3, PySem.W.mg_none_of X G z4, trivial⟩ trivial trivial
  have F6 := fun_mk (st := s__law_is_whole) l6 c6 k6
  have m6 : FnM l.prog w K mg base (fun _ _ _ _ => False) 7 "_law_is_whole" 1 den__law_is_whole := def_m (k := 6) (T := tab__law_is_whole) (body := bod__law_is_whole) (ρ := rho__law_is_whole) F6 (PySem.W.mg_of X G a6) (F6.binds (ps := ["x"]) fun _ _ _ _ _ _ us hl => match us, hl with | [_], _ => rfl) sc__law_is_whole mm__law_is_whole trivial ⟨PySem.W.mg_none_of X G z5, PySem.W.mg_none_of X G z6, PySem.W.mg_none_of X G z2, trivial⟩ trivial trivial
  have F7 := fun_mk (st := s__law_down) l7 c7 k7
  have m7 : FnM l.prog w K mg base (fun _ _ _ _ => False) 8 "_law_down" 3 den__law_down := def_m (k := 7) (T := tab__law_down) (body := bod__law_down) (ρ := rho__law_down) F7 (PySem.W.mg_of X G a7) (F7.binds (ps := ["p", "q", "most"]) fun _ _ _ _ _ _ us hl => match us, hl with | [_, _, _], _ => rfl) sc__law_down mm__law_down trivial ⟨PySem.W.mg_none_of X G z0, trivial⟩ trivial trivial
  have F8 := fun_mk (st := s__law_below) l8 c8 k8
  have m8 : FnM l.prog w K mg base (fun _ _ _ _ => False) 9 "_law_below" 3 den__law_below := def_m (k := 8) (T := tab__law_below) (body := bod__law_below) (ρ := rho__law_below) F8 (PySem.W.mg_of X G a8) (F8.binds (ps := ["p", "q", "most"]) fun _ _ _ _ _ _ us hl => match us, hl with | [_, _, _], _ => rfl) sc__law_below mm__law_below trivial ⟨PySem.W.mg_none_of X G z0, trivial⟩ trivial trivial
  have F9 := fun_mk (st := s__law_told) l9 c9 k9
  have m9 : FnM l.prog w K mg base (fun _ _ _ _ => False) 10 "_law_told" 2 den__law_told := def_m (k := 9) (T := tab__law_told) (body := bod__law_told) (ρ := rho__law_told) F9 (PySem.W.mg_of X G a9) (F9.binds (ps := ["told", "due"]) fun _ _ _ _ _ _ us hl => match us, hl with | [_, _], _ => rfl) sc__law_told mm__law_told ⟨⟨7, by decide, m6⟩, trivial⟩ ⟨PySem.W.mg_none_of X G z3, PySem.W.mg_none_of X G z5, PySem.W.mg_none_of X G z1, trivial⟩ trivial trivial
  have F10 := fun_mk (st := s__law_right) l10 c10 k10
  have m10 : FnM l.prog w K mg base (fun _ _ _ _ => False) 11 "_law_right" 3 den__law_right := def_m (k := 10) (T := tab__law_right) (body := bod__law_right) (ρ := rho__law_right) F10 (PySem.W.mg_of X G a10) (F10.binds (ps := ["p", "q", "most"]) fun _ _ _ _ _ _ us hl => match us, hl with | [_, _, _], _ => rfl) sc__law_right mm__law_right ⟨⟨8, by decide, m7⟩, ⟨9, by decide, m8⟩, ⟨3, by decide, m2⟩, ⟨4, by decide, m3⟩, ⟨10, by decide, m9⟩, trivial⟩ ⟨PySem.W.mg_none_of X G z3, PySem.W.mg_none_of X G z2, PySem.W.mg_none_of X G z0, trivial⟩ trivial trivial
  have F11 := fun_mk (st := s_law) l11 c11 k11
  exact def_ok (k := 11) (T := tab_law) (body := bod_law) (ρ := rho_law) F11 sc_law mm_law ⟨⟨5, by decide, m4⟩, ⟨6, by decide, m5⟩, ⟨11, by decide, m10⟩, ⟨3, by decide, m2⟩, ⟨4, by decide, m3⟩, trivial⟩ ⟨PySem.W.mg_none_of X G z0, trivial⟩ trivial trivial
end K69
open PySem PySem.W PyProof.Rows in
set_option maxRecDepth 100000 in
set_option maxHeartbeats 0 in
theorem PySem.Challenge.cw_turnedstretches_k69_rows_rounded_down_an_holds : PySem.Challenge.rw_turnedstretches_k69_rows_rounded_down_an.Holds := by
  w_on; o_law; k_head; (case hw => w_witness2)
  k_fill
  refine L2.walk_of (l := PySem.Challenge.rw_turnedstretches_k69_rows_rounded_down_an) (n := 63) (k := 12) (x := "script") (CX := fun w => L2.CX PySem.Challenge.rw_turnedstretches_k69_rows_rounded_down_an.prog w) (sp := fun w => Vi.spOf _ (fun _ _ _ _ => False) 1 K69.den_law) rfl (by decide) rfl ⟨rfl, by decide, by decide⟩ (fun w h Y => PySem.W.kIn_of Y) ?F (fun _ H a ns hl _ hS => Vi.law_sp K69.law_true H a ns hl hS) (fun _ _ _ _ _ h => by obtain ⟨_, _, _, _, _, _, _, _, _, _, _, _, z⟩ := h; exact z)
  case F =>
    intro w mg fa h KX G hmg
    refine' K69.all_mk KX G hmg ?a0 ?l0 ?c0 ?k0 ?a1 ?l1 ?c1 ?k1 ?a2 ?l2 ?c2 ?k2 ?a3 ?l3 ?c3 ?k3 ?a4 ?l4 ?c4 ?k4 ?a5 ?l5 ?c5 ?k5 ?a6 ?l6 ?c6 ?k6 ?a7 ?l7 ?c7 ?k7 ?a8 ?l8 ?c8 ?k8 ?a9 ?l9 ?c9 ?k9 ?a10 ?l10 ?c10 ?k10 ?a11 ?l11 ?c11 ?k11 ?z0 ?z1 ?z2 ?z3 ?z4 ?z5 ?z6
    (case a0 => k_is)
    (case l0 => k_is)
    (case c0 => k_is)
    (case k0 => k_is)
    (case a1 => k_is)
    (case l1 => k_is)
    (case c1 => k_is)
    (case k1 => k_is)
    (case a2 => k_is)
    (case l2 => k_is)
    (case c2 => k_is)
    (case k2 => k_is)
    (case a3 => k_is)
    (case l3 => k_is)
    (case c3 => k_is)
    (case k3 => k_is)
    (case a4 => k_is)
    (case l4 => k_is)
    (case c4 => k_is)
    (case k4 => k_is)
    (case a5 => k_is)
    (case l5 => k_is)
    (case c5 => k_is)
    (case k5 => k_is)
    (case a6 => k_is)
    (case l6 => k_is)
    (case c6 => k_is)
    (case k6 => k_is)
    (case a7 => k_is)
    (case l7 => k_is)
    (case c7 => k_is)
    (case k7 => k_is)
    (case a8 => k_is)
    (case l8 => k_is)
    (case c8 => k_is)
    (case k8 => k_is)
    (case a9 => k_is)
    (case l9 => k_is)
    (case c9 => k_is)
    (case k9 => k_is)
    (case a10 => k_is)
    (case l10 => k_is)
    (case c10 => k_is)
    (case k10 => k_is)
    (case a11 => k_is)
    (case l11 => k_is)
    (case c11 => k_is)
    (case k11 => k_is)
    (case z0 => k_is)
    (case z1 => k_is)
    (case z2 => k_is)
    (case z3 => k_is)
    (case z4 => k_is)
    (case z5 => k_is)
    (case z6 => k_is)
