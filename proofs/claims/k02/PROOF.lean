import PyProof.Rows.All
import HandS.ForMost
import HandS.ForExc
import HandS.Wide
import HandS.TupAny
import HandS.TupMul
import HandS.Style
import HandS.IsInst
import PyProof.StrLawsRepr
import KE.GoesZip
import KE.GoesMore
import HandS.SetFor
import HandS.ExcIs
import KE.KExcSuper
import KE.KExcIs
import PySem.Challenge.RW_quadsets_k02_maps_chained
set_option Elab.async false
set_option linter.all false
set_option maxRecDepth 100000
set_option exponentiation.threshold 3000
/-! DL0: a logic of plain data over the hand layer: slots hold data (PyData), owned lists, raw values. -/
namespace DL
open PySem PySem.Spec PyProof.Rows L2

/-- what a slot is known to hold -/
inductive Den where
  | un
  | d (x : PyData)
  | own (fx : Bool) (xs : List PyData)
  | v (w : V)
  | exc (a dd : Addr) (ks : List Str) (xs : List PyData)

theorem SqT_mono {K : PySem.W.Frag} {H H' : Hp} {a : Addr} {xs : List V} (e : Same H H') (h : SqT K H a xs) : SqT K H' a xs := by
  rcases h with (h | ⟨o, h⟩) | h
  · exact .inl (.inl (e _ _ h))
  · exact .inl (.inr ⟨o, e _ _ h⟩)
  · exact .inr h
mutual
theorem Dp_mono {K : PySem.W.Frag} {G G' : Hp} (e : Same G G') : ∀ (d : PyData) (v : V), Dp K G v d → Dp K G' v d
  | .none, _, .non => .non
  | .bool _, _, .bl b => .bl b
  | .int _, _, .int i => .int i
  | .str _, _, .str x => .str x
  | .list ds, _, .lst h ha => .lst (e.seq h) (DpAll_mono e ds _ ha)
  | .tuple ds, _, .tup h ha => .tup (SqT_mono e h) (DpAll_mono e ds _ ha)
theorem DpAll_mono {K : PySem.W.Frag} {G G' : Hp} (e : Same G G') : ∀ (ds : List PyData) (vs : List V), DpAll K G vs ds → DpAll K G' vs ds
  | [], _, .nil => .nil
  | d :: ds, _, .cons h ha => .cons (Dp_mono e d _ h) (DpAll_mono e ds _ ha)
end
end DL
namespace L2
open PySem PySem.Spec PyProof.Rows DL
theorem DpAll.length {K : PySem.W.Frag} {G : Hp} : ∀ {vs : List V} {ds : List PyData}, DpAll K G vs ds → vs.length = ds.length
  | _, _, .nil => rfl
  | _, _, .cons _ h => by simp [DpAll.length h]
theorem DpAll.get {K : PySem.W.Frag} {G : Hp} : ∀ {vs : List V} {ds : List PyData} {i : Nat} {d : PyData}, DpAll K G vs ds → ds[i]? = some d → ∃ v, vs[i]? = some v ∧ Dp K G v d
  | _, _, _, _, .nil, e => by simp at e
  | _, _, 0, _, .cons h _, e => by simp at e; subst e; exact ⟨_, rfl, h⟩
  | _, _, i + 1, d, .cons _ t, e => by
    obtain ⟨v, h1, h2⟩ := DpAll.get (i := i) (d := d) t (by simpa using e)
    exact ⟨v, by simpa using h1, h2⟩
theorem DpAll.append {K : PySem.W.Frag} {G : Hp} : ∀ {vs ws : List V} {ds es : List PyData}, DpAll K G vs ds → DpAll K G ws es → DpAll K G (vs ++ ws) (ds ++ es)
  | _, _, _, _, .nil, h => h
  | _, _, _, _, .cons h t, h' => .cons h (DpAll.append t h')
theorem DpAll.set {K : PySem.W.Frag} {G : Hp} {v : V} {d : PyData} (h : Dp K G v d) : ∀ {vs : List V} {ds : List PyData} (i : Nat), DpAll K G vs ds → DpAll K G (vs.set i v) (ds.set i d)
  | _, _, _, .nil => .nil
  | _, _, 0, .cons _ t => .cons h t
  | _, _, i + 1, .cons q t => .cons q (DpAll.set h i t)
theorem DpAll.take {K : PySem.W.Frag} {G : Hp} : ∀ {vs : List V} {ds : List PyData} (n : Nat), DpAll K G vs ds → DpAll K G (vs.take n) (ds.take n)
  | _, _, 0, _ => .nil
  | _, _, _ + 1, .nil => .nil
  | _, _, n + 1, .cons h t => .cons h (DpAll.take n t)
theorem DpAll.drop {K : PySem.W.Frag} {G : Hp} : ∀ {vs : List V} {ds : List PyData} (n : Nat), DpAll K G vs ds → DpAll K G (vs.drop n) (ds.drop n)
  | _, _, 0, h => h
  | _, _, _ + 1, .nil => .nil
  | _, _, n + 1, .cons _ t => DpAll.drop n t
theorem DpAll.reverse {K : PySem.W.Frag} {G : Hp} : ∀ {vs : List V} {ds : List PyData}, DpAll K G vs ds → DpAll K G vs.reverse ds.reverse
  | _, _, .nil => .nil
  | _, _, .cons h t => by
    rw [List.reverse_cons, List.reverse_cons]
    exact DpAll.append (DpAll.reverse t) (.cons h .nil)
theorem DpAll.flatrep {K : PySem.W.Frag} {G : Hp} {vs : List V} {ds : List PyData} (h : DpAll K G vs ds) : ∀ k : Nat, DpAll K G (List.replicate k vs).flatten (List.replicate k ds).flatten
  | 0 => .nil
  | k + 1 => by
    rw [List.replicate_succ, List.replicate_succ, List.flatten_cons, List.flatten_cons]
    exact DpAll.append h (DpAll.flatrep h k)
theorem DpAll.ints {K : PySem.W.Frag} {G : Hp} : ∀ {ns : List Int} {vs : List V}, DpAll K G vs (ns.map PyData.int) → vs = ns.map V.int
  | [], _, .nil => rfl
  | n :: ns, _, .cons h t => by
    cases h
    rw [DpAll.ints t]
    rfl
theorem DpAll.bools {K : PySem.W.Frag} {G : Hp} : ∀ {ns : List Bool} {vs : List V}, DpAll K G vs (ns.map PyData.bool) → vs = ns.map V.bl
  | [], _, .nil => rfl
  | n :: ns, _, .cons h t => by
    cases h
    rw [DpAll.bools t]
    rfl
theorem DpAll.of_ints {K : PySem.W.Frag} {G : Hp} : ∀ {ns : List Int}, DpAll K G (ns.map V.int) (ns.map PyData.int)
  | [] => .nil
  | n :: ns => .cons (.int n) DpAll.of_ints

end L2
namespace DL
open PySem PySem.Spec PyProof.Rows L2
/-! ### states -/
def SlotOk (K : PySem.W.Frag) (G H : Hp) (x : Option (Option V)) : Den → Prop
  | .un => True
  | .d y => ∃ v, x = some (some v) ∧ Dp K G v y
  | .own _ ys => ∃ a vs, x = some (some (.ref a)) ∧ G a = none ∧ H a = some (.lst vs) ∧ DpAll K G vs ys
  | .v w => x = some (some w)
  | .exc a dd ks ys => ∃ vs, x = some (some (.ref a)) ∧ H dd = some (.xd (ks.zip vs)) ∧ ks.length = vs.length ∧ DpAll K G vs ys
def isOwn : Option Den → Bool
  | some (.own _ _) => true
  | _ => false
def isFix : Option Den → Bool
  | some (.own true _) => true
  | _ => false
/-- the slot i owns the list at a -/
def Own (σ : L2.St) (ρ : List Den) (i : Nat) (a : Addr) : Prop := isOwn ρ[i]? = true ∧ σ[i]? = some (some (.ref a))
def OwnA (σ : L2.St) (ρ : List Den) (a : Addr) : Prop := ∃ i, Own σ ρ i a
structure StD (K : PySem.W.Frag) (G H : Hp) (σ : L2.St) (ρ : List Den) : Prop where
  sub : Same G H
  len : σ.length = ρ.length
  at_ : ∀ (i : Nat) (den : Den), ρ[i]? = some den → SlotOk K G H σ[i]? den
  inj : ∀ i j a, Own σ ρ i a → Own σ ρ j a → i = j

/-- what a step keeps: O may change -/
structure Stp (G H : Hp) (O : Addr → Prop) (G' H' : Hp) : Prop where
  gsub : Same G G'
  fresh : ∀ a, G a = none → G' a ≠ none → H a = none ∨ O a
  kept : ∀ a o, H a = some o → ¬ O a → H' a = some o
  dom : ∀ a, H' a = none → H a = none
structure Nxt (K : PySem.W.Frag) (G H : Hp) (σ : L2.St) (ρ : List Den) (G' H' : Hp) (σ' : L2.St) (ρ' : List Den) : Prop where
  stp : Stp G H (OwnA σ ρ) G' H'
  st : StD K G' H' σ' ρ'
  own : ∀ a, OwnA σ' ρ' a → OwnA σ ρ a ∨ H a = none
  fix : ∀ (i : Nat), isFix ρ[i]? = true → isFix ρ'[i]? = true ∧ σ'[i]? = σ[i]?

section
variable {K : PySem.W.Frag} {G H G' H' G1 H1 G2 H2 : Hp} {σ σ' σ1 σ2 : L2.St} {ρ ρ' ρ1 ρ2 : List Den} {O : Addr → Prop}
theorem Stp.refl : Stp G H O G H := ⟨fun _ _ h => h, fun _ h h' => absurd h h', fun _ _ h _ => h, fun _ h => h⟩
theorem Nxt.refl (s : StD K G H σ ρ) : Nxt K G H σ ρ G H σ ρ := ⟨.refl, s, fun _ h => .inl h, fun _ h => ⟨h, rfl⟩⟩
theorem Stp.trans {O1 : Addr → Prop} (a : Stp G H O G1 H1) (b : Stp G1 H1 O1 G2 H2) (ho : ∀ x, O1 x → O x ∨ H x = none) : Stp G H O G2 H2 := by
  refine ⟨a.gsub.trans b.gsub, fun x h h' => ?_, fun x o h hn => ?_, fun x h => a.dom x (b.dom x h)⟩
  · by_cases h1 : G1 x = none
    · rcases b.fresh x h1 h' with q | q
      · exact .inl (a.dom x q)
      · exact (ho x q).symm
    · exact a.fresh x h h1
  · refine b.kept x o (a.kept x o h hn) fun q => ?_
    rcases ho x q with z | z
    · exact hn z
    · rw [h] at z; cases z
theorem Nxt.trans (a : Nxt K G H σ ρ G1 H1 σ1 ρ1) (b : Nxt K G1 H1 σ1 ρ1 G2 H2 σ2 ρ2) : Nxt K G H σ ρ G2 H2 σ2 ρ2 := by
  refine ⟨a.stp.trans b.stp a.own, b.st, fun x h => ?_, fun i h => ?_⟩
  · rcases b.own x h with q | q
    · exact a.own x q
    · exact .inr (a.stp.dom x q)
  · obtain ⟨h1, e1⟩ := a.fix i h
    obtain ⟨h2, e2⟩ := b.fix i h1
    exact ⟨h2, e2.trans e1⟩
theorem StD.own_at (s : StD K G H σ ρ) {i : Nat} {a : Addr} (h : Own σ ρ i a) : G a = none ∧ ∃ vs, H a = some (.lst vs) := by
  obtain ⟨h1, h2⟩ := h
  cases e : ρ[i]? with
  | none => rw [e] at h1; cases h1
  | some den =>
    rw [e] at h1
    have q := s.at_ i den e
    cases den with
    | own fx xs =>
      obtain ⟨b, vs, e1, e2, e3, _⟩ := q
      rw [h2] at e1
      cases e1
      exact ⟨e2, vs, e3⟩
    | _ => cases h1
/-- a slot's fact is kept by a step, if its own list is -/
theorem SlotOk.keep {x : Option (Option V)} {den : Den} (h : SlotOk K G H x den) (p : Stp G H O G' H')
    (hO : ∀ a, x = some (some (.ref a)) → isOwn (some den) = true → ¬ O a) (hl : ∀ a, O a → ∃ vs, H a = some (.lst vs)) : SlotOk K G' H' x den := by
  cases den with
  | un => trivial
  | d y =>
    obtain ⟨v, e, q⟩ := h
    exact ⟨v, e, Dp_mono p.gsub _ _ q⟩
  | own fx ys =>
    obtain ⟨a, vs, e, g, hh, q⟩ := h
    have na := hO a e rfl
    refine ⟨a, vs, e, ?_, p.kept a _ hh na, DpAll_mono p.gsub _ _ q⟩
    cases e' : G' a with
    | none => rfl
    | some o =>
      rcases p.fresh a g (by rw [e']; simp) with z | z
      · rw [hh] at z; cases z
      · exact absurd z na
  | v w => exact h
  | exc a dd ks ys =>
    obtain ⟨vs, e, hd, l, q⟩ := h
    refine ⟨vs, e, p.kept dd _ hd fun z => ?_, l, DpAll_mono p.gsub _ _ q⟩
    obtain ⟨us, hu⟩ := hl dd z
    rw [hd] at hu
    cases hu
/-- an extension without change -/
theorem StD.ext (s : StD K G H σ ρ) (p : Stp G H (fun _ => False) G' H') (hs : Same G' H') : StD K G' H' σ ρ :=
  ⟨hs, s.len, fun i den e => (s.at_ i den e).keep p (fun _ _ _ z => z) (fun _ z => z.elim), s.inj⟩
theorem Stp.any (p : Stp G H (fun _ => False) G' H') : Stp G H O G' H' := ⟨p.gsub, fun a h h' => (p.fresh a h h').imp id False.elim, fun a o h _ => p.kept a o h fun z => z, p.dom⟩
theorem Nxt.ext (s : StD K G H σ ρ) (p : Stp G H (fun _ => False) G' H') (hs : Same G' H') : Nxt K G H σ ρ G' H' σ ρ :=
  ⟨p.any, s.ext p hs, fun _ h => .inl h, fun _ h => ⟨h, rfl⟩⟩
/-- a new object, pure: laid in both heaps -/
theorem Stp.laid {p : Addr} {o : HO} (hs : Same G H) (hp : H p = none) : Stp G H (fun _ => False) (upd G p o) (upd H p o) := by
  have gp : G p = none := by
    cases e : G p with
    | none => rfl
    | some u => rw [hs p u e] at hp; cases hp
  refine ⟨fun a u e => ?_, fun a h h' => ?_, fun a u e _ => ?_, fun a h => ?_⟩
  · rw [upd_ne (ne_of_none e gp)]; exact e
  · by_cases hb : a = p
    · subst hb; exact .inl hp
    · rw [upd_ne hb] at h'; exact absurd h h'
  · rw [upd_ne (ne_of_none e hp)]; exact e
  · by_cases hb : a = p
    · subst hb; exact hp
    · rw [upd_ne hb] at h; exact h
/-- a new object, not (yet) pure: laid in H alone -/
theorem Stp.laidH {p : Addr} {o : HO} (hp : H p = none) : Stp G H (fun _ => False) G (upd H p o) := by
  refine ⟨fun a u e => e, fun a h h' => absurd h h', fun a u e _ => ?_, fun a h => ?_⟩
  · rw [upd_ne (ne_of_none e hp)]; exact e
  · by_cases hb : a = p
    · subst hb; exact hp
    · rw [upd_ne hb] at h; exact h
end

end DL
namespace L2
open PySem PySem.Spec PyProof.Rows DL
section
variable {G H : Hp}
theorem Same.laid {p : Addr} {o : HO} (hs : Same G H) : Same (upd G p o) (upd H p o) := fun a u e => by
  by_cases hb : a = p
  · subst hb; rw [upd_same] at e ⊢; exact e
  · rw [upd_ne hb] at e ⊢; exact hs a u e
theorem Same.laidH {p : Addr} {o : HO} (hs : Same G H) (hp : H p = none) : Same G (upd H p o) := fun a u e => by
  rw [upd_ne (ne_of_none (hs a u e) hp)]; exact hs a u e
end
end L2
namespace DL
open PySem PySem.Spec PyProof.Rows L2
/-! ### the judgements -/
/-- an expression yields data -/
def Ev (X : Cx) (ρ : List Den) (e : Expr) (d : PyData) (ρ' : List Den) : Prop :=
  ∃ t, PE X e t ∧ ∀ (σ : L2.St) (G H : Hp) (Q : VK), StD X.K G H σ ρ →
    (∀ v G' H', Nxt X.K G H σ ρ G' H' σ ρ' → Dp X.K G' v d → Q v H') → t σ H Q
/-- an expression yields a new list, owned by nobody yet -/
def EvO (X : Cx) (ρ : List Den) (e : Expr) (ds : List PyData) (ρ' : List Den) : Prop :=
  ∃ t, PE X e t ∧ ∀ (σ : L2.St) (G H : Hp) (Q : VK), StD X.K G H σ ρ →
    (∀ p vs G' H', Nxt X.K G H σ ρ G' H' σ ρ' → H p = none → G' p = none → (¬ OwnA σ ρ' p) → H' p = some (.lst vs) → DpAll X.K G' vs ds → Q (.ref p) H') → t σ H Q
/-- a test -/
def EvT (X : Cx) (ρ : List Den) (e : Expr) (b : Bool) (ρ' : List Den) : Prop :=
  ∃ t, PT X e t ∧ ∀ (σ : L2.St) (G H : Hp) (Q : Bool → Hp → Prop), StD X.K G H σ ρ →
    (∀ G' H', Nxt X.K G H σ ρ G' H' σ ρ' → Q b H') → t σ H Q
def EvW (X : Cx) (ρ : List Den) (e : Expr) (b : Bool) (ρ' : List Den) : Prop :=
  ∃ t, PW X e t ∧ ∀ (σ : L2.St) (G H : Hp) (Q : Bool → Hp → Prop), StD X.K G H σ ρ →
    (∀ G' H', Nxt X.K G H σ ρ G' H' σ ρ' → Q b H') → t σ H Q
/-- an argument: data, or the owned list of a slot, or a raw value -/
inductive Arg where
  | d (x : PyData)
  | sl (i : Nat)
  | v (w : V)
def ArgOk (K : PySem.W.Frag) (G : Hp) (σ : L2.St) (v : V) : Arg → Prop
  | .d x => Dp K G v x
  | .sl i => σ[i]? = some (some v)
  | .v w => v = w
inductive ArgsOk (K : PySem.W.Frag) (G : Hp) (σ : L2.St) : List V → List Arg → Prop
  | nil : ArgsOk K G σ [] []
  | cons {v : V} {vs : List V} {a : Arg} {as : List Arg} : ArgOk K G σ v a → ArgsOk K G σ vs as → ArgsOk K G σ (v :: vs) (a :: as)
def EvA (X : Cx) (ρ : List Den) (es : List Expr) (as : List Arg) (ρ' : List Den) : Prop :=
  ∃ t, PA X es t ∧ ∀ (σ : L2.St) (G H : Hp) (Q : List V → Hp → Prop), StD X.K G H σ ρ →
    (∀ vs G' H', Nxt X.K G H σ ρ G' H' σ ρ' → ArgsOk X.K G' σ vs as → Q vs H') → t σ H Q
theorem ArgOk.mono {K : PySem.W.Frag} {G G' : Hp} {σ : L2.St} (e : Same G G') {v : V} {a : Arg} (h : ArgOk K G σ v a) : ArgOk K G' σ v a := by
  cases a with
  | d x => exact Dp_mono e _ _ h
  | sl i => exact h
  | v w => exact h
theorem ArgsOk.mono {K : PySem.W.Frag} {G G' : Hp} {σ : L2.St} (e : Same G G') : ∀ {vs : List V} {as : List Arg}, ArgsOk K G σ vs as → ArgsOk K G' σ vs as
  | _, _, .nil => .nil
  | _, _, .cons h t => .cons (h.mono e) (t.mono e)

section
variable {X : Cx} {ρ ρ' ρ1 ρ2 : List Den} {pos : Pos}
theorem EvA.nil : EvA X ρ [] [] ρ := ⟨_, pa_nil, fun σ G H Q s h => h [] G H (.refl s) .nil⟩
theorem EvA.cons {e : Expr} {es : List Expr} {d : PyData} {as : List Arg} (he : Ev X ρ e d ρ1) (hr : EvA X ρ1 es as ρ2)
    (hs : starEach (e :: es) X.env = (false, eval e X.env) :: starEach es X.env := by rfl) : EvA X ρ (e :: es) (.d d :: as) ρ2 := by
  obtain ⟨t, ht, h1⟩ := he
  obtain ⟨u, hu, h2⟩ := hr
  refine ⟨_, pa_cons ht hu hs, fun σ G H Q s h => ?_⟩
  refine h1 σ G H _ s fun v G1 H1 n1 q1 => ?_
  refine h2 σ G1 H1 _ n1.st fun vs G2 H2 n2 q2 => ?_
  exact h _ G2 H2 (n1.trans n2) (.cons (show ArgOk X.K G2 σ v (.d d) from Dp_mono n2.stp.gsub _ _ q1) q2)
/-- a raw argument (a slot's value, a class ..): by its own rule -/
def EvV (X : Cx) (ρ : List Den) (e : Expr) (w : V) : Prop :=
  ∃ t, PE X e t ∧ ∀ (σ : L2.St) (G H : Hp) (Q : VK), StD X.K G H σ ρ → Q w H → t σ H Q
theorem EvA.consV {e : Expr} {es : List Expr} {w : V} {as : List Arg} (he : EvV X ρ e w) (hr : EvA X ρ es as ρ2)
    (hs : starEach (e :: es) X.env = (false, eval e X.env) :: starEach es X.env := by rfl) : EvA X ρ (e :: es) (.v w :: as) ρ2 := by
  obtain ⟨t, ht, h1⟩ := he
  obtain ⟨u, hu, h2⟩ := hr
  refine ⟨_, pa_cons ht hu hs, fun σ G H Q s h => ?_⟩
  refine h1 σ G H _ s ?_
  refine h2 σ G H _ s fun vs G2 H2 n2 q2 => ?_
  exact h _ G2 H2 n2 (.cons rfl q2)
theorem EvA.consS {x : Str} {p : Pos} {es : List Expr} {as : List Arg} {fx : Bool} {xs : List PyData} (i : Nat) (hi : ρ[i]? = some (.own fx xs)) (hr : EvA X ρ es as ρ2)
    (hN : X.N[i]? = some x) (hv : Vis X.env.scope x) (hd : (x == ("__debug__" : Str)) = false := by decide) (hcd : (x == ("__classdict__" : Str)) = false := by decide)
    (hs : starEach (.Name x p :: es) X.env = (false, eval (.Name x p) X.env) :: starEach es X.env := by rfl) : EvA X ρ (.Name x p :: es) (.sl i :: as) ρ2 := by
  obtain ⟨u, hu, h2⟩ := hr
  refine ⟨_, pa_cons (pe_var hN hv hd hcd) hu hs, fun σ G H Q s h => ?_⟩
  obtain ⟨a, vs, e, _⟩ := s.at_ i _ hi
  refine ⟨.ref a, e, ?_⟩
  refine h2 σ G H _ s fun vs G2 H2 n2 q2 => ?_
  exact h _ G2 H2 n2 (.cons (show ArgOk X.K G2 σ _ (.sl i) from e) q2)

/-! ### names, constants -/
theorem Ev.name {x : Str} {d : PyData} (i : Nat) (hi : ρ[i]? = some (.d d)) (hN : X.N[i]? = some x) (hv : Vis X.env.scope x) (hd : (x == ("__debug__" : Str)) = false := by decide)
    (hcd : (x == ("__classdict__" : Str)) = false := by decide) : Ev X ρ (.Name x pos) d ρ := by
  refine ⟨_, pe_var hN hv hd hcd, fun σ G H Q s h => ?_⟩
  obtain ⟨v, e, q⟩ := s.at_ i _ hi
  exact ⟨v, e, h v G H (.refl s) q⟩
theorem EvV.name {x : Str} {w : V} (i : Nat) (hi : ρ[i]? = some (.v w)) (hN : X.N[i]? = some x) (hv : Vis X.env.scope x) (hd : (x == ("__debug__" : Str)) = false := by decide)
    (hcd : (x == ("__classdict__" : Str)) = false := by decide) : EvV X ρ (.Name x pos) w := by
  refine ⟨_, pe_var hN hv hd hcd, fun σ G H Q s h => ?_⟩
  have e := s.at_ i _ hi
  exact ⟨w, e, h⟩
theorem EvV.exc {x : Str} {a dd : Addr} {ks : List Str} {ys : List PyData} (i : Nat) (hi : ρ[i]? = some (.exc a dd ks ys)) (hN : X.N[i]? = some x) (hv : Vis X.env.scope x) (hd : (x == ("__debug__" : Str)) = false := by decide)
    (hcd : (x == ("__classdict__" : Str)) = false := by decide) : EvV X ρ (.Name x pos) (.ref a) := by
  refine ⟨_, pe_var hN hv hd hcd, fun σ G H Q s h => ?_⟩
  obtain ⟨vs, e, _⟩ := s.at_ i _ hi
  exact ⟨.ref a, e, h⟩
theorem EvV.glob {x : Str} {v : V} {u : Value} (hg : Gl X x) (hm : X.mg x = some u) (r : RelV v u) (hd : (x == ("__debug__" : Str)) = false := by decide) : EvV X ρ (.Name x pos) v :=
  ⟨_, pe_glob hg hm r hd, fun _ _ H Q _ h => h⟩
theorem EvV.bltn {x : Str} {v : V} {u : Value} (hg : Gl X x) (hm : X.mg x = none) (hv : bootBuiltins x = some u) (r : RelV v u) (hn : x ≠ "__name__" := by decide) (hd : (x == ("__debug__" : Str)) = false := by decide) : EvV X ρ (.Name x pos) v :=
  ⟨_, pe_bltn hg hm hv r hn hd, fun _ _ H Q _ h => h⟩
theorem Ev.int {i : Int} {j} : Ev X ρ (.Constant (.int i) j pos) (.int i) ρ := ⟨_, pe_int, fun σ G H Q s h => h _ G H (.refl s) (.int i)⟩
theorem Ev.bl {b : Bool} {j} : Ev X ρ (.Constant (.bool b) j pos) (.bool b) ρ := ⟨_, pe_bl, fun σ G H Q s h => h _ G H (.refl s) (.bl b)⟩
theorem Ev.non {j} : Ev X ρ (.Constant .none j pos) .none ρ := ⟨_, pe_non, fun σ G H Q s h => h _ G H (.refl s) .non⟩
theorem Ev.str {x : Str} {j} : Ev X ρ (.Constant (.str x) j pos) (.str x) ρ := ⟨_, pe_str, fun σ G H Q s h => h _ G H (.refl s) (.str x)⟩
theorem Ev.cast {e : Expr} {d d' : PyData} (h : Ev X ρ e d ρ') (q : d = d') : Ev X ρ e d' ρ' := q ▸ h

/-! ### operators by value -/
/-- r on the data d1, d2 gives the data d -/
def PR2 (K : PySem.W.Frag) (r : R2) (d1 d2 d : PyData) : Prop :=
  ∀ (G H : Hp) (v1 v2 : V) (Q : VK), Same G H → Dp K G v1 d1 → Dp K G v2 d2 →
    (∀ v G' H', Stp G H (fun _ => False) G' H' → Same G' H' → Dp K G' v d → Q v H') → r v1 v2 H Q
/-- .. where nothing is made -/
theorem PR2.flat {K : PySem.W.Frag} {r : R2} {d1 d2 d : PyData} (h : ∀ (G H : Hp) (v1 v2 : V) (Q : VK), Same G H → Dp K G v1 d1 → Dp K G v2 d2 → (∀ v, Dp K G v d → Q v H) → r v1 v2 H Q) : PR2 K r d1 d2 d :=
  fun G H v1 v2 Q s h1 h2 q => h G H v1 v2 Q s h1 h2 fun v hv => q v G H .refl s hv
theorem Ev.bin {a b : Expr} {op : Operator} {r : R2} {d1 d2 d : PyData} (ho : OpR X (binaryOp op) r) (pr : PR2 X.K r d1 d2 d) (ha : Ev X ρ a d1 ρ1) (hb : Ev X ρ1 b d2 ρ2) : Ev X ρ (.BinOp a op b pos) d ρ2 := by
  obtain ⟨t, ht, h1⟩ := ha
  obtain ⟨u, hu, h2⟩ := hb
  refine ⟨_, pe_op ho ht hu, fun σ G H Q s h => ?_⟩
  refine h1 σ G H _ s fun v G1 H1 n1 q1 => ?_
  refine h2 σ G1 H1 _ n1.st fun w G2 H2 n2 q2 => ?_
  refine pr G2 H2 v w _ n2.st.sub (Dp_mono n2.stp.gsub _ _ q1) q2 fun x G3 H3 p3 s3 q3 => ?_
  exact h x G3 H3 ((n1.trans n2).trans (.ext n2.st p3 s3)) q3
theorem Ev.cmp {a b : Expr} {op : CmpOp} {r : R2} {d1 d2 d : PyData} (ho : OpR X (compareOp op) r) (pr : PR2 X.K r d1 d2 d) (hm : behindInMarks op b = false) (ha : Ev X ρ a d1 ρ1) (hb : Ev X ρ1 b d2 ρ2) : Ev X ρ (.Compare a [op] [b] pos) d ρ2 := by
  obtain ⟨t, ht, h1⟩ := ha
  obtain ⟨u, hu, h2⟩ := hb
  refine ⟨_, pe_cmpR ho ht hu hm, fun σ G H Q s h => ?_⟩
  refine h1 σ G H _ s fun v G1 H1 n1 q1 => ?_
  refine h2 σ G1 H1 _ n1.st fun w G2 H2 n2 q2 => ?_
  refine pr G2 H2 v w _ n2.st.sub (Dp_mono n2.stp.gsub _ _ q1) q2 fun x G3 H3 p3 s3 q3 => ?_
  exact h x G3 H3 ((n1.trans n2).trans (.ext n2.st p3 s3)) q3
theorem EvT.cmp {a b : Expr} {op : CmpOp} {r : R2} {d1 d2 : PyData} {k : Bool} (ho : OpR X (compareOp op) r) (pr : PR2 X.K r d1 d2 (.bool k)) (hm : behindInMarks op b = false) (ha : Ev X ρ a d1 ρ1) (hb : Ev X ρ1 b d2 ρ2) : EvT X ρ (.Compare a [op] [b] pos) k ρ2 := by
  obtain ⟨t, ht, h1⟩ := ha
  obtain ⟨u, hu, h2⟩ := hb
  refine ⟨_, pt_cmpR ho ht hu hm, fun σ G H Q s h => ?_⟩
  refine h1 σ G H _ s fun v G1 H1 n1 q1 => ?_
  refine h2 σ G1 H1 _ n1.st fun w G2 H2 n2 q2 => ?_
  refine pr G2 H2 v w _ n2.st.sub (Dp_mono n2.stp.gsub _ _ q1) q2 fun x G3 H3 p3 s3 q3 => ?_
  cases q3
  exact ⟨k, rfl, h G3 H3 ((n1.trans n2).trans (.ext n2.st p3 s3))⟩
/-- a < b < c -/
theorem EvT.chain {a b c : Expr} {op op' : CmpOp} {r r' : R2} {d1 d2 d3 : PyData} {k k' : Bool} (ho : OpR X (compareOp op) r) (ho' : OpR X (compareOp op') r') (pr : PR2 X.K r d1 d2 (.bool k)) (pr' : PR2 X.K r' d2 d3 (.bool k'))
    (ha : Ev X ρ a d1 ρ) (hb : Ev X ρ b d2 ρ) (hc : Ev X ρ c d3 ρ) (hm : lastMarks [op, op'] [b, c] = false := by with_unfolding_all rfl) : EvT X ρ (.Compare a [op, op'] [b, c] pos) (k && k') ρ := by
  obtain ⟨t, ht, h1⟩ := ha
  obtain ⟨u, hu, h2⟩ := hb
  obtain ⟨y, hy, h3⟩ := hc
  refine ⟨_, pt_chain ho ho' ht hu hy hm, fun σ G H Q s h => ?_⟩
  refine h1 σ G H _ s fun v G1 H1 n1 q1 => ?_
  refine h2 σ G1 H1 _ n1.st fun w G2 H2 n2 q2 => ?_
  refine pr G2 H2 v w _ n2.st.sub (Dp_mono n2.stp.gsub _ _ q1) q2 fun x G3 H3 p3 s3 q3 => ?_
  cases q3
  have n3 := (n1.trans n2).trans (.ext n2.st p3 s3)
  refine ⟨k, rfl, ?_⟩
  cases k with
  | false =>
    rw [if_neg Bool.false_ne_true]
    exact ⟨false, rfl, h G3 H3 n3⟩
  | true =>
    rw [if_pos rfl]
    refine h3 σ G3 H3 _ n3.st fun w' G4 H4 n4 q4 => ?_
    refine pr' G4 H4 w w' _ n4.st.sub (Dp_mono (p3.gsub.trans n4.stp.gsub) _ _ q2) q4 fun x G5 H5 p5 s5 q5 => ?_
    cases q5
    exact ⟨k', rfl, h G5 H5 ((n3.trans n4).trans (.ext n4.st p5 s5))⟩
end
end DL

/-! DL1: calls of built-ins, subscripts, displays, tests, statements, targets. -/
namespace DL
open PySem PySem.Spec PyProof.Rows L2
section
variable {K : PySem.W.Frag} {G H G' H' G1 H1 G2 H2 : Hp} {σ σ' σ1 σ2 : L2.St} {ρ ρ' ρ1 ρ2 : List Den}
/-- a new list becomes pure -/
theorem Nxt.freeze {p : Addr} {o : HO} (n : Nxt K G H σ ρ G' H' σ' ρ') (hp : H p = none) (ho : ¬ OwnA σ' ρ' p) (h : H' p = some o) (hg : G' p = none) :
    Nxt K G H σ ρ (upd G' p o) H' σ' ρ' ∧ Same G' (upd G' p o) := by
  have hs : Same G' (upd G' p o) := fun a u e => by rw [upd_ne (ne_of_none e hg)]; exact e
  have hs2 : Same (upd G' p o) H' := fun a u e => by
    by_cases hb : a = p
    · subst hb; rw [upd_same] at e; cases e; exact h
    · rw [upd_ne hb] at e; exact n.st.sub a u e
  refine ⟨⟨⟨n.stp.gsub.trans hs, fun a h1 h2 => ?_, n.stp.kept, n.stp.dom⟩, ⟨hs2, n.st.len, fun i den e => ?_, n.st.inj⟩, n.own, n.fix⟩, hs⟩
  · by_cases hb : a = p
    · subst hb; exact .inl hp
    · rw [upd_ne hb] at h2; exact n.stp.fresh a h1 h2
  · have q := n.st.at_ i den e
    cases den with
    | un => trivial
    | d y =>
      obtain ⟨v, e1, q⟩ := q
      exact ⟨v, e1, Dp_mono hs _ _ q⟩
    | own fx ys =>
      obtain ⟨a, vs, e1, g, hh, q⟩ := q
      refine ⟨a, vs, e1, ?_, hh, DpAll_mono hs _ _ q⟩
      rw [upd_ne]
      · exact g
      · rintro rfl
        exact ho ⟨i, by rw [e]; rfl, e1⟩
    | v w => exact q
    | exc a dd ks ys =>
      obtain ⟨vs, e1, hd, l, q⟩ := q
      exact ⟨vs, e1, hd, l, DpAll_mono hs _ _ q⟩
end

section
variable {X : Cx} {ρ ρ' ρ1 ρ2 : List Den} {pos : Pos}
/-- a new list taken as data -/
theorem EvO.ev {e : Expr} {ds : List PyData} (h : EvO X ρ e ds ρ') : Ev X ρ e (.list ds) ρ' := by
  obtain ⟨t, ht, h1⟩ := h
  refine ⟨t, ht, fun σ G H Q s h => ?_⟩
  refine h1 σ G H Q s fun p vs G' H' n hp hg ho hH hd => ?_
  obtain ⟨n', sm⟩ := n.freeze hp ho hH hg
  exact h _ _ _ n' (.lst (SqL.of upd_same) (DpAll_mono sm _ _ hd))
/-- what is laid by a rule, as a new list -/
theorem EvO.of_laid {K : PySem.W.Frag} {G H : Hp} {σ : L2.St} {ρ0 : List Den} {G0 H0 : Hp} {vs : List V} {ds : List PyData} {Q : VK} (n : Nxt K G0 H0 σ ρ0 G H σ ρ) (hd : DpAll K G vs ds)
    (h : ∀ p vs G' H', Nxt K G0 H0 σ ρ0 G' H' σ ρ → H0 p = none → G' p = none → (¬ OwnA σ ρ p) → H' p = some (.lst vs) → DpAll K G' vs ds → Q (.ref p) H') : ∀ p, H p = none → Q (.ref p) (upd H p (.lst vs)) := fun p hp => by
  have gp : G p = none := by
    cases e : G p with
    | none => rfl
    | some u => rw [n.st.sub p u e] at hp; cases hp
  refine h p vs G _ (n.trans (.ext n.st (Stp.laidH hp) (n.st.sub.laidH hp))) (n.stp.dom p hp) gp (fun ⟨i, o⟩ => ?_) upd_same hd
  obtain ⟨_, us, e⟩ := n.st.own_at o
  rw [hp] at e; cases e

/-! ### calls of built-ins on data -/
def PCall (K : PySem.W.Frag) (r : List V → Hp → VK → Prop) (as : List Arg) (d : PyData) : Prop :=
  ∀ (σ : L2.St) (G H : Hp) (vs : List V) (Q : VK), Same G H → ArgsOk K G σ vs as → (∀ v G' H', Stp G H (fun _ => False) G' H' → Same G' H' → Dp K G' v d → Q v H') → r vs H Q
def PCallO (K : PySem.W.Frag) (r : List V → Hp → VK → Prop) (as : List Arg) (ds : List PyData) : Prop :=
  ∀ (σ : L2.St) (G H : Hp) (vs : List V) (Q : VK), Same G H → ArgsOk K G σ vs as → (∀ us, DpAll K G us ds → ∀ p, H p = none → Q (.ref p) (upd H p (.lst us))) → r vs H Q
theorem Ev.callB {id : String} {r : List V → Hp → VK → Prop} {x : Str} {p : Pos} {e : Expr} {es : List Expr} {as : List Arg} {d : PyData} (hc : CallR X (.builtin id) r) (pr : PCall X.K r as d) (hg : Gl X x) (hm : X.mg x = none) (hv : bootBuiltins x = some (.builtin id)) (ha : EvA X ρ (e :: es) as ρ')
    (hn : x ≠ "__name__" := by decide) (hdb : (x == ("__debug__" : Str)) = false := by decide) (he : starEach (e :: es) X.env = (false, eval e X.env) :: starEach es X.env := by rfl) (hpl : (backTo pos (starEach es X.env)).any (·.1) = false := by rfl) :
    Ev X ρ (.Call (.Name x p) (e :: es) [] pos) d ρ' := by
  obtain ⟨t, ht, h1⟩ := ha
  refine ⟨_, pe_callB hc hg hm hv ht hn hdb he hpl, fun σ G H Q s h => ?_⟩
  refine h1 σ G H _ s fun vs G1 H1 n1 q1 => ?_
  refine pr σ G1 H1 vs _ n1.st.sub q1 fun v G2 H2 p2 s2 q2 => ?_
  exact h v G2 H2 (n1.trans (.ext n1.st p2 s2)) q2
theorem Ev.callTy {T : String} {r : List V → Hp → VK → Prop} {x : Str} {p : Pos} {e : Expr} {es : List Expr} {as : List Arg} {d : PyData} (hc : CallR X (.type T) r) (pr : PCall X.K r as d) (hg : Gl X x) (hm : X.mg x = none) (hv : bootBuiltins x = some (.type T)) (ha : EvA X ρ (e :: es) as ρ')
    (hn : x ≠ "__name__" := by decide) (hdb : (x == ("__debug__" : Str)) = false := by decide) (he : starEach (e :: es) X.env = (false, eval e X.env) :: starEach es X.env := by rfl) (hpl : (backTo pos (starEach es X.env)).any (·.1) = false := by rfl) :
    Ev X ρ (.Call (.Name x p) (e :: es) [] pos) d ρ' := by
  obtain ⟨t, ht, h1⟩ := ha
  refine ⟨_, pe_callTy hc hg hm hv ht hn hdb he hpl, fun σ G H Q s h => ?_⟩
  refine h1 σ G H _ s fun vs G1 H1 n1 q1 => ?_
  refine pr σ G1 H1 vs _ n1.st.sub q1 fun v G2 H2 p2 s2 q2 => ?_
  exact h v G2 H2 (n1.trans (.ext n1.st p2 s2)) q2
theorem EvO.callTy {T : String} {r : List V → Hp → VK → Prop} {x : Str} {p : Pos} {e : Expr} {es : List Expr} {as : List Arg} {ds : List PyData} (hc : CallR X (.type T) r) (pr : PCallO X.K r as ds) (hg : Gl X x) (hm : X.mg x = none) (hv : bootBuiltins x = some (.type T)) (ha : EvA X ρ (e :: es) as ρ')
    (hn : x ≠ "__name__" := by decide) (hdb : (x == ("__debug__" : Str)) = false := by decide) (he : starEach (e :: es) X.env = (false, eval e X.env) :: starEach es X.env := by rfl) (hpl : (backTo pos (starEach es X.env)).any (·.1) = false := by rfl) :
    EvO X ρ (.Call (.Name x p) (e :: es) [] pos) ds ρ' := by
  obtain ⟨t, ht, h1⟩ := ha
  refine ⟨_, pe_callTy hc hg hm hv ht hn hdb he hpl, fun σ G H Q s h => ?_⟩
  refine h1 σ G H _ s fun vs G1 H1 n1 q1 => ?_
  refine pr σ G1 H1 vs _ n1.st.sub q1 fun us hd => ?_
  exact EvO.of_laid n1 hd h
/-- a new list by an operator (xs + ys, xs * n) -/
def PR2O (K : PySem.W.Frag) (r : R2) (d1 d2 : PyData) (ds : List PyData) : Prop :=
  ∀ (G H : Hp) (v1 v2 : V) (Q : VK), Same G H → Dp K G v1 d1 → Dp K G v2 d2 → (∀ us, DpAll K G us ds → ∀ p, H p = none → Q (.ref p) (upd H p (.lst us))) → r v1 v2 H Q
theorem EvO.bin {a b : Expr} {op : Operator} {r : R2} {d1 d2 : PyData} {ds : List PyData} (ho : OpR X (binaryOp op) r) (pr : PR2O X.K r d1 d2 ds) (ha : Ev X ρ a d1 ρ1) (hb : Ev X ρ1 b d2 ρ2) : EvO X ρ (.BinOp a op b pos) ds ρ2 := by
  obtain ⟨t, ht, h1⟩ := ha
  obtain ⟨u, hu, h2⟩ := hb
  refine ⟨_, pe_op ho ht hu, fun σ G H Q s h => ?_⟩
  refine h1 σ G H _ s fun v G1 H1 n1 q1 => ?_
  refine h2 σ G1 H1 _ n1.st fun w G2 H2 n2 q2 => ?_
  refine pr G2 H2 v w _ n2.st.sub (Dp_mono n2.stp.gsub _ _ q1) q2 fun us hd => ?_
  exact EvO.of_laid (n1.trans n2) hd h
/-- -a -/
theorem Ev.un {a : Expr} {op : UnaryOp} {r : V → Hp → VK → Prop} {d1 d : PyData} (ho : UnR X (unaryOp op) r) (pr : ∀ (G H : Hp) (v : V) (Q : VK), Dp X.K G v d1 → (∀ v, Dp X.K G v d → Q v H) → r v H Q) (ha : Ev X ρ a d1 ρ1) : Ev X ρ (.UnaryOp op a pos) d ρ1 := by
  obtain ⟨t, ht, h1⟩ := ha
  refine ⟨_, pe_un ho ht, fun σ G H Q s h => ?_⟩
  refine h1 σ G H _ s fun v G1 H1 n1 q1 => ?_
  exact pr G1 H1 v _ q1 fun w hw => h w G1 H1 n1 hw
/-- a[i] -/
theorem Ev.ix {a b : Expr} {r : R2} {d1 d2 d : PyData} (hr : IxR X r) (pr : PR2 X.K r d1 d2 d) (ha : Ev X ρ a d1 ρ1) (hb : Ev X ρ1 b d2 ρ2) (hs : PlainIx b := by intro _ _; rfl) : Ev X ρ (.Subscript a b pos) d ρ2 := by
  obtain ⟨t, ht, h1⟩ := ha
  obtain ⟨u, hu, h2⟩ := hb
  refine ⟨_, pe_ix hr ht hu hs, fun σ G H Q s h => ?_⟩
  refine h1 σ G H _ s fun v G1 H1 n1 q1 => ?_
  refine h2 σ G1 H1 _ n1.st fun w G2 H2 n2 q2 => ?_
  refine pr G2 H2 v w _ n2.st.sub (Dp_mono n2.stp.gsub _ _ q1) q2 fun x G3 H3 p3 s3 q3 => ?_
  exact h x G3 H3 ((n1.trans n2).trans (.ext n2.st p3 s3)) q3
/-- xs[i], xs an owned list's slot -/
theorem Ev.ixOwn {x : Str} {px : Pos} {b : Expr} {fx : Bool} {xs : List PyData} {j : Int} {d : PyData} (i : Nat) (hb : Ev X ρ b (.int j) ρ1) (hi : ρ1[i]? = some (.own fx xs)) (hj : atI xs j = some d) (hs : PlainIx b := by intro _ _; rfl)
    (hN : X.N[i]? = some x := by rfl) (hv : Vis X.env.scope x := by first | exact Or.inl rfl | exact Or.inr (Or.inl rfl) | exact Or.inr (Or.inr rfl)) (hd : (x == ("__debug__" : Str)) = false := by decide) (hcd : (x == ("__classdict__" : Str)) = false := by decide) (hi0 : isOwn ρ[i]? = true := by rfl) :
    Ev X ρ (.Subscript (.Name x px) b pos) d ρ1 := by
  obtain ⟨u, hu, h2⟩ := hb
  refine ⟨_, pe_ix ix_list (pe_var hN hv hd hcd) hu hs, fun σ G H Q s h => ?_⟩
  cases e0 : ρ[i]? with
  | none => rw [e0] at hi0; cases hi0
  | some den =>
    rw [e0] at hi0
    cases den with
    | own fx0 ys0 =>
      obtain ⟨a0, vs0, ea, _⟩ := s.at_ i _ e0
      refine ⟨_, ea, ?_⟩
      refine h2 σ G H _ s fun w G2 H2 n2 q2 => ?_
      cases q2
      obtain ⟨a, vs, e, hg, hH, hd⟩ := n2.st.at_ i _ hi
      rw [ea] at e
      cases e
      unfold atI at hj
      rw [← hd.length] at hj
      cases ek : ixN vs.length j with
      | none => rw [ek] at hj; cases hj
      | some k =>
        rw [ek, Option.bind_some] at hj
        obtain ⟨v, hv, hq⟩ := hd.get hj
        refine ⟨_, vs, j, v, rfl, rfl, SqL.of hH, ?_, h v G2 H2 n2 hq⟩
        unfold atI
        rw [ek, Option.bind_some]
        exact hv
    | _ => cases hi0
/-- (a, b, ..) -/
def argData : List Arg → Option (List PyData)
  | [] => some []
  | .d x :: as => (argData as).map (x :: ·)
  | _ :: _ => none
theorem ArgsOk.all {K : PySem.W.Frag} {G : Hp} {σ : L2.St} : ∀ {vs : List V} {ds : List PyData}, ArgsOk K G σ vs (ds.map .d) → DpAll K G vs ds
  | _, [], .nil => .nil
  | _, d :: ds, .cons h t => .cons h (ArgsOk.all t)
theorem Ev.tup {es : List Expr} {ds : List PyData} {k : Nat} (ha : EvA X ρ es (ds.map .d) ρ') (hz : ds.length ≤ sizeLine := by decide) : Ev X ρ (.Tuple es k pos) (.tuple ds) ρ' := by
  obtain ⟨t, ht, h1⟩ := ha
  refine ⟨_, pe_tup ht, fun σ G H Q s h => ?_⟩
  refine h1 σ G H _ s fun vs G1 H1 n1 q1 => ?_
  have q2 := q1.all
  refine ⟨by rw [q2.length]; exact hz, fun p hp => ?_⟩
  have gp : G1 p = none := by
    cases e : G1 p with
    | none => rfl
    | some u => rw [n1.st.sub p u e] at hp; cases hp
  have st := Stp.laid (o := .tup vs) n1.st.sub hp
  exact h _ _ _ (n1.trans (.ext n1.st st (n1.st.sub.laid))) (.tup (SqT.of upd_same) (DpAll_mono st.gsub _ _ q2))
theorem EvO.lst {es : List Expr} {ds : List PyData} (ha : EvA X ρ es (ds.map .d) ρ') (hz : ds.length ≤ sizeLine := by decide) : EvO X ρ (.List es pos) ds ρ' := by
  obtain ⟨t, ht, h1⟩ := ha
  refine ⟨_, pe_lst ht, fun σ G H Q s h => ?_⟩
  refine h1 σ G H _ s fun vs G1 H1 n1 q1 => ?_
  have q2 := q1.all
  exact ⟨by rw [q2.length]; exact hz, EvO.of_laid n1 q2 h⟩
/-- a method of a built-in type, on data -/
def PMet (K : PySem.W.Frag) (T : String) (r : V → List V → Hp → VK → Prop) (d0 : PyData) (as : List Arg) (d : PyData) : Prop :=
  ∀ (σ : L2.St) (G H : Hp) (v : V) (vs : List V) (Q : VK), Same G H → Dp K G v d0 → ArgsOk K G σ vs as → (∀ w, Dp K G w d → Q w H) → r v vs H Q

/-! ### slices of data -/
def EvP (X : Cx) (ρ : List Den) (e : Option Expr) (o : Option Int) : Prop :=
  ∃ t, PO X e t ∧ ∀ (σ : L2.St) (G H : Hp) (Q : Option Int → Hp → Prop), StD X.K G H σ ρ → (∀ G' H', Nxt X.K G H σ ρ G' H' σ ρ → Q o H') → t σ H Q
theorem EvP.none : EvP X ρ none none := ⟨_, po_none, fun σ G H Q s h => h G H (.refl s)⟩
theorem EvP.some {e : Expr} {i : Int} (h : Ev X ρ e (.int i) ρ) : EvP X ρ (some e) (some i) := by
  obtain ⟨t, ht, h1⟩ := h
  refine ⟨_, po_some ht, fun σ G H Q s h => ?_⟩
  refine h1 σ G H _ s fun v G1 H1 n1 q1 => ?_
  cases q1
  exact ⟨i, rfl, h G1 H1 n1⟩
def cutD (xs : List PyData) (lo hi : Option Int) : List PyData := (xs.drop (HT.sIx xs.length 0 lo)).take (HT.sIx xs.length xs.length hi - HT.sIx xs.length 0 lo)
theorem cut_all {K : PySem.W.Frag} {G : Hp} {vs : List V} {ds : List PyData} (h : DpAll K G vs ds) (lo hi : Option Int) : DpAll K G (cutV vs lo hi) (cutD ds lo hi) := by
  unfold cutV cutD
  rw [h.length]
  exact (h.drop _).take _
theorem EvO.slice {e : Expr} {lo hi : Option Expr} {l u : Option Int} {ds : List PyData} {p2 : Pos} (he : Ev X ρ e (.list ds) ρ1) (hl : EvP X ρ1 lo l) (hu : EvP X ρ1 hi u) : EvO X ρ (.Subscript e (.Slice lo hi none p2) pos) (cutD ds l u) ρ1 := by
  obtain ⟨t, ht, h1⟩ := he
  obtain ⟨tl, htl, h2⟩ := hl
  obtain ⟨tu, htu, h3⟩ := hu
  refine ⟨_, pe_slice sl_list ht htl htu, fun σ G H Q s h => ?_⟩
  refine h1 σ G H _ s fun v G1 H1 n1 q1 => ?_
  refine h2 σ G1 H1 _ n1.st fun G2 H2 n2 => ?_
  refine h3 σ G2 H2 _ n2.st fun G3 H3 n3 => ?_
  have q3 := Dp_mono (n2.stp.gsub.trans n3.stp.gsub) _ _ q1
  cases q3 with
  | lst hq ha =>
    refine ⟨_, _, rfl, n3.st.sub.seq hq, ?_⟩
    exact EvO.of_laid ((n1.trans n2).trans n3) (cut_all ha l u) h
end
end DL

/-! DL2: tests, statements, targets, defs and their calls. -/
namespace DL
open PySem PySem.Spec PyProof.Rows L2
section
variable {X : Cx} {ρ ρ' ρ1 ρ2 : List Den} {pos : Pos}
/-! ### tests -/
theorem EvT.val {e : Expr} {b : Bool} (h : Ev X ρ e (.bool b) ρ') (he : ∀ whole, isTrue e X.env whole = (do let v ← whole; standAt e.pos; holding [v] (truthy v)) := by intro _; rfl) : EvT X ρ e b ρ' := by
  obtain ⟨t, ht, h1⟩ := h
  refine ⟨_, pt_val ht he, fun σ G H Q s h => ?_⟩
  refine h1 σ G H _ s fun v G1 H1 n1 q1 => ?_
  cases q1
  exact ⟨b, rfl, h G1 H1 n1⟩
theorem EvT.not {a : Expr} {b : Bool} (h : EvT X ρ a b ρ') : EvT X ρ (.UnaryOp .Not a pos) (!b) ρ' := by
  obtain ⟨t, ht, h1⟩ := h
  exact ⟨_, pt_not ht, fun σ G H Q s h => h1 σ G H _ s fun G1 H1 n1 => h G1 H1 n1⟩
theorem EvW.and1 {a : Expr} {b : Bool} (h : EvT X ρ a b ρ') : EvW X ρ (.BoolOp .And [a] pos) b ρ' := by
  obtain ⟨t, ht, h1⟩ := h
  exact ⟨_, pw_and1 ht, h1⟩
theorem EvW.or1 {a : Expr} {b : Bool} (h : EvT X ρ a b ρ') : EvW X ρ (.BoolOp .Or [a] pos) b ρ' := by
  obtain ⟨t, ht, h1⟩ := h
  exact ⟨_, pw_or1 ht, h1⟩
/-- a and ..: a is false -/
def tAndF (t : TT) : TT := fun σ H Q => t σ H fun c H1 => c = false ∧ Q false H1
theorem pw_andF {a : Expr} {rest : List Expr} {t : TT} (ha : PT X a t) : PW X (.BoolOp .And (a :: rest) pos) (tAndF t) := by
  refine ⟨fun wh pins s σ H Q I h => ?_⟩
  refine isTrue_and (thn (ha.run pins s σ H _ I h) fun c s1 ⟨H1, I1, q1⟩ => ?_)
  obtain ⟨e, q⟩ := q1
  subst e
  exact ⟨H1, I1, q⟩
def tOrT (t : TT) : TT := fun σ H Q => t σ H fun c H1 => c = true ∧ Q true H1
theorem pw_orT {a : Expr} {rest : List Expr} {t : TT} (ha : PT X a t) : PW X (.BoolOp .Or (a :: rest) pos) (tOrT t) := by
  refine ⟨fun wh pins s σ H Q I h => ?_⟩
  refine isTrue_or (thn (ha.run pins s σ H _ I h) fun c s1 ⟨H1, I1, q1⟩ => ?_)
  obtain ⟨e, q⟩ := q1
  subst e
  exact ⟨H1, I1, q⟩
/-- a and b ..: both without effect on what is known -/
theorem EvW.and {a b : Expr} {rest : List Expr} {k l : Bool} (ha : EvT X ρ a k ρ) (hb : k = true → EvW X ρ (.BoolOp .And (b :: rest) pos) l ρ) : EvW X ρ (.BoolOp .And (a :: b :: rest) pos) (k && l) ρ := by
  obtain ⟨t, ht, h1⟩ := ha
  cases k with
  | true =>
    obtain ⟨u, hu, h2⟩ := hb rfl
    refine ⟨_, pw_and ht hu, fun σ G H Q s h => ?_⟩
    refine h1 σ G H _ s fun G1 H1 n1 => ?_
    rw [if_pos rfl]
    exact h2 σ G1 H1 Q n1.st fun G2 H2 n2 => h G2 H2 (n1.trans n2)
  | false => exact ⟨_, pw_andF ht, fun σ G H Q s h => h1 σ G H _ s fun G1 H1 n1 => ⟨rfl, h G1 H1 n1⟩⟩
theorem EvW.or {a b : Expr} {rest : List Expr} {k l : Bool} (ha : EvT X ρ a k ρ) (hb : k = false → EvW X ρ (.BoolOp .Or (b :: rest) pos) l ρ) : EvW X ρ (.BoolOp .Or (a :: b :: rest) pos) (k || l) ρ := by
  obtain ⟨t, ht, h1⟩ := ha
  cases k with
  | false =>
    obtain ⟨u, hu, h2⟩ := hb rfl
    refine ⟨_, pw_or ht hu, fun σ G H Q s h => ?_⟩
    refine h1 σ G H _ s fun G1 H1 n1 => ?_
    rw [if_neg Bool.false_ne_true]
    exact h2 σ G1 H1 Q n1.st fun G2 H2 n2 => h G2 H2 (n1.trans n2)
  | true => exact ⟨_, pw_orT ht, fun σ G H Q s h => h1 σ G H _ s fun G1 H1 n1 => ⟨rfl, h G1 H1 n1⟩⟩
theorem EvW.t {e : Expr} {b : Bool} (h : EvW X ρ e b ρ') : EvT X ρ e b ρ' := by
  obtain ⟨t, ht, h1⟩ := h
  exact ⟨_, ht.pt, h1⟩
/-! .. as values -/
theorem pe_andF {a b : Expr} {rest : List Expr} {t : TE} (ha : PE X a t) : PE X (.BoolOp .And (a :: b :: rest) pos) (fun σ H Q => t σ H fun x H1 => x = .bl false ∧ Q (.bl false) H1) := by
  refine ⟨fun pins s σ H Q I h => ?_⟩
  refine BoolOp_and (thn (ha.run pins s σ H _ I h) fun v s1 ⟨x, H1, I1, r1, q1⟩ => ?_)
  obtain ⟨e, q⟩ := q1
  subst e
  cases r1
  exact wpAny_truthy_bool ⟨.bl false, H1, I1, rfl, q⟩
theorem pe_orT {a b : Expr} {rest : List Expr} {t : TE} (ha : PE X a t) : PE X (.BoolOp .Or (a :: b :: rest) pos) (fun σ H Q => t σ H fun x H1 => x = .bl true ∧ Q (.bl true) H1) := by
  refine ⟨fun pins s σ H Q I h => ?_⟩
  refine BoolOp_or (thn (ha.run pins s σ H _ I h) fun v s1 ⟨x, H1, I1, r1, q1⟩ => ?_)
  obtain ⟨e, q⟩ := q1
  subst e
  cases r1
  exact wpAny_truthy_bool ⟨.bl true, H1, I1, rfl, q⟩
theorem Ev.one {op} {a : Expr} {d : PyData} (h : Ev X ρ a d ρ') : Ev X ρ (.BoolOp op [a] pos) d ρ' := by
  obtain ⟨t, ht, h1⟩ := h
  exact ⟨_, pe_one ht, h1⟩
theorem Ev.and {a b : Expr} {rest : List Expr} {k l : Bool} (ha : Ev X ρ a (.bool k) ρ1) (hb : k = true → Ev X ρ1 (.BoolOp .And (b :: rest) pos) (.bool l) ρ2) (hf : k = false → ρ1 = ρ2) : Ev X ρ (.BoolOp .And (a :: b :: rest) pos) (.bool (k && l)) ρ2 := by
  obtain ⟨t, ht, h1⟩ := ha
  cases k with
  | true =>
    obtain ⟨u, hu, h2⟩ := hb rfl
    refine ⟨_, pe_and ht hu, fun σ G H Q s h => ?_⟩
    refine h1 σ G H _ s fun v G1 H1 n1 q1 => ?_
    cases q1
    refine ⟨true, rfl, ?_⟩
    rw [if_pos rfl]
    exact h2 σ G1 H1 Q n1.st fun v G2 H2 n2 q2 => h v G2 H2 (n1.trans n2) q2
  | false =>
    have e := hf rfl
    subst e
    refine ⟨_, pe_andF ht, fun σ G H Q s h => h1 σ G H _ s fun v G1 H1 n1 q1 => ?_⟩
    cases q1
    exact ⟨rfl, h _ G1 H1 n1 (.bl false)⟩
theorem Ev.or {a b : Expr} {rest : List Expr} {k l : Bool} (ha : Ev X ρ a (.bool k) ρ1) (hb : k = false → Ev X ρ1 (.BoolOp .Or (b :: rest) pos) (.bool l) ρ2) (hf : k = true → ρ1 = ρ2) : Ev X ρ (.BoolOp .Or (a :: b :: rest) pos) (.bool (k || l)) ρ2 := by
  obtain ⟨t, ht, h1⟩ := ha
  cases k with
  | false =>
    obtain ⟨u, hu, h2⟩ := hb rfl
    refine ⟨_, pe_or ht hu, fun σ G H Q s h => ?_⟩
    refine h1 σ G H _ s fun v G1 H1 n1 q1 => ?_
    cases q1
    refine ⟨false, rfl, ?_⟩
    rw [if_neg Bool.false_ne_true]
    exact h2 σ G1 H1 Q n1.st fun v G2 H2 n2 q2 => h v G2 H2 (n1.trans n2) q2
  | true =>
    have e := hf rfl
    subst e
    refine ⟨_, pe_orT ht, fun σ G H Q s h => h1 σ G H _ s fun v G1 H1 n1 q1 => ?_⟩
    cases q1
    exact ⟨rfl, h _ G1 H1 n1 (.bl true)⟩
theorem Ev.not {a : Expr} {k : Bool} (ha : Ev X ρ a (.bool k) ρ1) : Ev X ρ (.UnaryOp .Not a pos) (.bool (!k)) ρ1 := by
  obtain ⟨t, ht, h1⟩ := ha
  refine ⟨_, pe_not ht, fun σ G H Q s h => h1 σ G H _ s fun v G1 H1 n1 q1 => ?_⟩
  cases q1
  exact ⟨k, rfl, h _ G1 H1 n1 (.bl _)⟩
/-- a if c else b: the ways by the answer -/
theorem pe_ifT {c a b : Expr} {tc : TT} {ta : TE} (hc : PT X c tc) (ha : PE X a ta) : PE X (.IfExp c a b pos) (fun σ H Q => tc σ H fun k H1 => k = true ∧ ta σ H1 Q) := by
  refine ⟨fun pins s σ H Q I h => ?_⟩
  refine wpAny_IfExp (thn (hc.run pins s σ H _ I h) fun d s1 ⟨H1, I1, q1⟩ => ?_)
  obtain ⟨e, q⟩ := q1
  subst e
  exact ha.run pins s1 σ H1 Q I1 q
theorem pe_ifF {c a b : Expr} {tc : TT} {tb : TE} (hc : PT X c tc) (hb : PE X b tb) : PE X (.IfExp c a b pos) (fun σ H Q => tc σ H fun k H1 => k = false ∧ tb σ H1 Q) := by
  refine ⟨fun pins s σ H Q I h => ?_⟩
  refine wpAny_IfExp (thn (hc.run pins s σ H _ I h) fun d s1 ⟨H1, I1, q1⟩ => ?_)
  obtain ⟨e, q⟩ := q1
  subst e
  exact hb.run pins s1 σ H1 Q I1 q
theorem Ev.ite {c a b : Expr} {k : Bool} {d : PyData} (hc : EvT X ρ c k ρ1) (ha : k = true → Ev X ρ1 a d ρ2) (hb : k = false → Ev X ρ1 b d ρ2) : Ev X ρ (.IfExp c a b pos) d ρ2 := by
  obtain ⟨t, ht, h1⟩ := hc
  cases k with
  | true =>
    obtain ⟨u, hu, h2⟩ := ha rfl
    exact ⟨_, pe_ifT ht hu, fun σ G H Q s h => h1 σ G H _ s fun G1 H1 n1 => ⟨rfl, h2 σ G1 H1 Q n1.st fun v G2 H2 n2 q2 => h v G2 H2 (n1.trans n2) q2⟩⟩
  | false =>
    obtain ⟨u, hu, h2⟩ := hb rfl
    exact ⟨_, pe_ifF ht hu, fun σ G H Q s h => h1 σ G H _ s fun G1 H1 n1 => ⟨rfl, h2 σ G1 H1 Q n1.st fun v G2 H2 n2 q2 => h v G2 H2 (n1.trans n2) q2⟩⟩
theorem Ev.iteV {c a b : Expr} {k : Bool} {d e : PyData} (hc : EvT X ρ c k ρ1) (ha : Ev X ρ1 a d ρ2) (hb : Ev X ρ1 b e ρ2) : Ev X ρ (.IfExp c a b pos) (if k then d else e) ρ2 :=
  .ite hc (fun h => by subst h; exact ha) (fun h => by subst h; exact hb)

/-! ### statements -/
inductive Out where
  | nx (ρ : List Den)
  | ret (d : PyData) (ρ : List Den)
  | brk (ρ : List Den)
  | cnt (ρ : List Den)
  | exc (c : Addr) (ks : List Str) (ys : List PyData) (ρ : List Den)
def Fin (K : PySem.W.Frag) (W : WX) (G H : Hp) (σ : L2.St) (ρ : List Den) (D : Ends) : Out → Prop
  | .nx ρ' => ∀ σ' G' H', Nxt K G H σ ρ G' H' σ' ρ' → D.nx σ' H'
  | .ret d ρ' => ∀ v σ' G' H', Nxt K G H σ ρ G' H' σ' ρ' → Dp K G' v d → D.rt v H'
  | .brk ρ' => ∀ σ' G' H', Nxt K G H σ ρ G' H' σ' ρ' → D.bk σ' H'
  | .cnt ρ' => ∀ σ' G' H', Nxt K G H σ ρ G' H' σ' ρ' → D.ct σ' H'
  | .exc c ks ys ρ' => ∀ dd vs σ' G' H', Nxt K G H σ ρ G' H' σ' ρ' → H' dd = some (.xd (ks.zip vs)) → ks.length = vs.length → DpAll K G' vs ys → W (.ref c) (some dd) σ' H'
def ES (X : Cx) (W : WX) (ρ : List Den) (st : Stmt) (o : Out) : Prop :=
  ∃ t, PS X st t ∧ ∀ (σ : L2.St) (G H : Hp) (D : Ends), StD X.K G H σ ρ → Fin X.K W G H σ ρ D o → t D σ H
def Ex (X : Cx) (W : WX) (ρ : List Den) (ss : List Stmt) (o : Out) : Prop :=
  ∃ t, PSs X ss t ∧ ∀ (σ : L2.St) (G H : Hp) (D : Ends), StD X.K G H σ ρ → Fin X.K W G H σ ρ D o → t D σ H
variable {W : WX}
theorem Fin.after {K : PySem.W.Frag} {G H G1 H1 : Hp} {σ σ1 : L2.St} {D : Ends} {o : Out} (n : Nxt K G H σ ρ G1 H1 σ1 ρ1) (h : Fin K W G H σ ρ D o) : Fin K W G1 H1 σ1 ρ1 D o := by
  cases o with
  | nx ρ' => exact fun σ' G' H' n' => h σ' G' H' (n.trans n')
  | ret d ρ' => exact fun v σ' G' H' n' => h v σ' G' H' (n.trans n')
  | brk ρ' => exact fun σ' G' H' n' => h σ' G' H' (n.trans n')
  | cnt ρ' => exact fun σ' G' H' n' => h σ' G' H' (n.trans n')
  | exc c ks ys ρ' => exact fun dd vs σ' G' H' n' => h dd vs σ' G' H' (n.trans n')
/-- nothing more of the block, once left -/
def Out.left : Out → Bool
  | .nx _ => false
  | _ => true
theorem Fin.nonx {K : PySem.W.Frag} {G H : Hp} {σ : L2.St} {D : Ends} {o : Out} {n : L2.St → Hp → Prop} (h : Fin K W G H σ ρ D o) (ho : o.left = true) : Fin K W G H σ ρ { D with nx := n } o := by
  cases o with
  | nx ρ' => cases ho
  | ret d ρ' => exact h
  | brk ρ' => exact h
  | cnt ρ' => exact h
  | exc c ks ys ρ' => exact h
theorem Ex.nil : Ex X W ρ [] (.nx ρ) := ⟨_, pss_nil, fun σ G H D s h => h σ G H (.refl s)⟩
theorem Ex.cons {st : Stmt} {rest : List Stmt} {o : Out} (h1 : ES X W ρ st (.nx ρ1)) (h2 : Ex X W ρ1 rest o) : Ex X W ρ (st :: rest) o := by
  obtain ⟨t, ht, g1⟩ := h1
  obtain ⟨u, hu, g2⟩ := h2
  refine ⟨_, pss_cons ht hu, fun σ G H D s h => ?_⟩
  exact g1 σ G H _ s fun σ1 G1 H1 n1 => g2 σ1 G1 H1 D n1.st (h.after n1)
theorem Ex.one {st : Stmt} {o : Out} (h1 : ES X W ρ st o) : Ex X W ρ [st] o := by
  obtain ⟨t, ht, g1⟩ := h1
  exact ⟨_, pss_one ht, g1⟩
theorem Ex.stop {st : Stmt} {rest : List Stmt} {o : Out} (h1 : ES X W ρ st o) (ho : o.left = true := by rfl) : Ex X W ρ (st :: rest) o := by
  obtain ⟨t, ht, g1⟩ := h1
  refine ⟨_, pss_cons ht pss_never, fun σ G H D s h => ?_⟩
  exact g1 σ G H _ s (h.nonx ho)
theorem ES.ret {e : Expr} {d : PyData} (h : Ev X ρ e d ρ') : ES X W ρ (.Return (some e) pos) (.ret d ρ') := by
  obtain ⟨t, ht, h1⟩ := h
  exact ⟨_, ps_ret ht, fun σ G H D s h => h1 σ G H _ s fun v G1 H1 n1 q1 => h v σ G1 H1 n1 q1⟩
theorem ES.retN : ES X W ρ (.Return none pos) (.ret .none ρ) := ⟨_, ps_retN, fun σ G H D s h => h _ σ G H (.refl s) .non⟩
theorem ES.pass : ES X W ρ (.Pass pos) (.nx ρ) := ⟨_, ps_pass, fun σ G H D s h => h σ G H (.refl s)⟩
theorem ES.brk : ES X W ρ (.Break pos) (.brk ρ) := ⟨_, ps_break, fun σ G H D s h => h σ G H (.refl s)⟩
theorem ES.cnt : ES X W ρ (.Continue pos) (.cnt ρ) := ⟨_, ps_continue, fun σ G H D s h => h σ G H (.refl s)⟩
theorem ES.expr {e : Expr} {d : PyData} (h : Ev X ρ e d ρ') (hs : swapsWith e none pos.line X.env = pure false := by rfl) : ES X W ρ (.Expr e pos) (.nx ρ') := by
  obtain ⟨t, ht, h1⟩ := h
  exact ⟨_, ps_expr ht hs, fun σ G H D s h => h1 σ G H _ s fun v G1 H1 n1 q1 => h σ G1 H1 n1⟩
/-- an if whose test is decided, or both ways -/
theorem pss_ifT {c : Expr} {a b : List Stmt} {tc : TT} {t : TS} (hc : PT X c tc) (ha : PSs X a t) : PS X (.If c a b pos) (fun D σ H => tc σ H fun k H1 => k = true ∧ t D σ H1) := by
  refine ⟨fun pins s σ H D I h => ?_⟩
  refine wpAny_If (thn (hc.run pins s σ H _ I h) fun d s1 ⟨H1, I1, q1⟩ => ?_)
  obtain ⟨e, q⟩ := q1
  subst e
  exact ha.run pins s1 σ H1 D I1 q
theorem pss_ifF {c : Expr} {a b : List Stmt} {tc : TT} {t : TS} (hc : PT X c tc) (hb : PSs X b t) : PS X (.If c a b pos) (fun D σ H => tc σ H fun k H1 => k = false ∧ t D σ H1) := by
  refine ⟨fun pins s σ H D I h => ?_⟩
  refine wpAny_If (thn (hc.run pins s σ H _ I h) fun d s1 ⟨H1, I1, q1⟩ => ?_)
  obtain ⟨e, q⟩ := q1
  subst e
  exact hb.run pins s1 σ H1 D I1 q
theorem ES.ite {c : Expr} {a b : List Stmt} {k : Bool} {o : Out} (hc : EvT X ρ c k ρ1) (ha : k = true → Ex X W ρ1 a o) (hb : k = false → Ex X W ρ1 b o) : ES X W ρ (.If c a b pos) o := by
  obtain ⟨t, ht, h1⟩ := hc
  cases k with
  | true =>
    obtain ⟨u, hu, h2⟩ := ha rfl
    exact ⟨_, pss_ifT ht hu, fun σ G H D s h => h1 σ G H _ s fun G1 H1 n1 => ⟨rfl, h2 σ G1 H1 D n1.st (h.after n1)⟩⟩
  | false =>
    obtain ⟨u, hu, h2⟩ := hb rfl
    exact ⟨_, pss_ifF ht hu, fun σ G H D s h => h1 σ G H _ s fun G1 H1 n1 => ⟨rfl, h2 σ G1 H1 D n1.st (h.after n1)⟩⟩
/-- if c: .. (else nothing), not taken -/
theorem ES.skip {c : Expr} {a : List Stmt} {k : Bool} (hc : EvT X ρ c k ρ1) (hk : k = false) : ES X W ρ (.If c a [] pos) (.nx ρ1) := .ite hc (fun h => by rw [hk] at h; cases h) fun _ => .nil
theorem ES.ifT {c : Expr} {a b : List Stmt} {k : Bool} {o : Out} (hc : EvT X ρ c k ρ1) (hk : k = true) (ha : Ex X W ρ1 a o) : ES X W ρ (.If c a b pos) o := .ite hc (fun _ => ha) fun h => by rw [hk] at h; cases h
theorem ES.ifF {c : Expr} {a b : List Stmt} {k : Bool} {o : Out} (hc : EvT X ρ c k ρ1) (hk : k = false) (hb : Ex X W ρ1 b o) : ES X W ρ (.If c a b pos) o := .ite hc (fun h => by rw [hk] at h; cases h) fun _ => hb

/-! ### storing to a slot -/
theorem get_set {α : Type} {l : List α} {i j : Nat} {v x : α} (h : (l.set i v)[j]? = some x) : (j = i ∧ x = v) ∨ (j ≠ i ∧ l[j]? = some x) := by
  by_cases e : i = j
  · subst e
    by_cases hi : i < l.length
    · rw [List.getElem?_set_self hi] at h
      exact .inl ⟨rfl, (Option.some.inj h).symm⟩
    · rw [List.getElem?_eq_none (by simpa using hi)] at h
      cases h
  · rw [List.getElem?_set_ne e] at h
    exact .inr ⟨fun q => e q.symm, h⟩
theorem Own.of_set {σ : L2.St} {ρ : List Den} {i j : Nat} {a : Addr} {v : Option V} {den : Den} (h : Own (σ.set i v) (ρ.set i den) j a) : (j = i ∧ isOwn (some den) = true ∧ v = some (.ref a)) ∨ (j ≠ i ∧ Own σ ρ j a) := by
  obtain ⟨h1, h2⟩ := h
  by_cases e : j = i
  · subst e
    rcases get_set h2 with ⟨_, q⟩ | ⟨q, _⟩
    · refine .inl ⟨rfl, ?_, q.symm⟩
      cases e1 : (ρ.set j den)[j]? with
      | none => rw [e1] at h1; cases h1
      | some x =>
        rw [e1] at h1
        rcases get_set e1 with ⟨_, q⟩ | ⟨q, _⟩
        · rw [← q]; exact h1
        · exact absurd rfl q
    · exact absurd rfl q
  · refine .inr ⟨e, ?_, ?_⟩
    · rw [List.getElem?_set_ne (Ne.symm e)] at h1; exact h1
    · rw [List.getElem?_set_ne (Ne.symm e)] at h2; exact h2
theorem StD.set {K : PySem.W.Frag} {G H : Hp} {σ : L2.St} {i : Nat} {v : V} {den : Den} (s : StD K G H σ ρ) (h : SlotOk K G H (some (some v)) den) (hn : isOwn (some den) = true → ∀ j a, v = .ref a → Own σ ρ j a → j = i) : StD K G H (σ.set i (some v)) (ρ.set i den) := by
  refine ⟨s.sub, by simp [s.len], fun j dn e => ?_, fun j k a hj hk => ?_⟩
  · rcases get_set e with ⟨e1, e2⟩ | ⟨e1, e2⟩
    · subst e1; subst e2
      have hi : j < σ.length := by
        rw [s.len]
        exact (List.getElem?_eq_some_iff.mp e).1 |> (by simpa using ·)
      rw [List.getElem?_set_self hi]
      exact h
    · rw [List.getElem?_set_ne (Ne.symm e1)]
      exact s.at_ j dn e2
  · rcases hj.of_set with ⟨e1, o1, v1⟩ | ⟨e1, o1⟩
    · rcases hk.of_set with ⟨e2, _, _⟩ | ⟨e2, o2⟩
      · rw [e1, e2]
      · exact absurd (hn o1 k a (Option.some.inj v1) o2) e2
    · rcases hk.of_set with ⟨e2, o2, v2⟩ | ⟨e2, o2⟩
      · exact absurd (hn o2 j a (Option.some.inj v2) o1) e1
      · exact s.inj j k a o1 o2
theorem Nxt.fixset {σ : L2.St} {i : Nat} {v : Option V} {den : Den} (hf : isFix ρ[i]? = false) : ∀ (j : Nat), isFix ρ[j]? = true → isFix (ρ.set i den)[j]? = true ∧ (σ.set i v)[j]? = σ[j]? := fun j hj => by
  have e : j ≠ i := by
    rintro rfl
    rw [hf] at hj; cases hj
  exact ⟨by rw [List.getElem?_set_ne (Ne.symm e)]; exact hj, by rw [List.getElem?_set_ne (Ne.symm e)]⟩
/-- a slot is set to what is no owned list -/
theorem Nxt.set {K : PySem.W.Frag} {G H : Hp} {σ : L2.St} {i : Nat} {v : V} {den : Den} (s : StD K G H σ ρ) (h : SlotOk K G H (some (some v)) den) (hn : isOwn (some den) = false) (hf : isFix ρ[i]? = false) : Nxt K G H σ ρ G H (σ.set i (some v)) (ρ.set i den) := by
  refine ⟨.refl, s.set h (fun ho => by rw [hn] at ho; cases ho), fun a ⟨j, o⟩ => ?_, Nxt.fixset hf⟩
  rcases o.of_set with ⟨_, o1, v1⟩ | ⟨_, o1⟩
  · rw [hn] at o1; cases o1
  · exact .inl ⟨j, o1⟩
/-- a slot is set to a new list -/
theorem Nxt.setO {K : PySem.W.Frag} {G H G0 H0 : Hp} {σ σ0 : L2.St} {ρ0 : List Den} {i : Nat} {p : Addr} {vs : List V} {ds : List PyData} (n : Nxt K G0 H0 σ0 ρ0 G H σ ρ) (h0 : H0 p = none) (hg : G p = none) (hp : ¬ OwnA σ ρ p)
    (hH : H p = some (.lst vs)) (hd : DpAll K G vs ds) (hf : isFix ρ[i]? = false) : Nxt K G0 H0 σ0 ρ0 G H (σ.set i (some (.ref p))) (ρ.set i (.own false ds)) := by
  have st : StD K G H (σ.set i (some (.ref p))) (ρ.set i (.own false ds)) := n.st.set ⟨p, vs, rfl, hg, hH, hd⟩ fun _ j a e o => by
    cases e
    exact absurd ⟨j, o⟩ hp
  refine ⟨n.stp, st, fun a ⟨j, o⟩ => ?_, fun j hj => ?_⟩
  · rcases o.of_set with ⟨_, o1, v1⟩ | ⟨_, o1⟩
    · cases v1
      exact .inr h0
    · exact n.own a ⟨j, o1⟩
  · obtain ⟨h1, e1⟩ := n.fix j hj
    obtain ⟨h2, e2⟩ := Nxt.fixset (σ := σ) (v := some (.ref p)) (den := .own false ds) hf j h1
    exact ⟨h2, e2.trans e1⟩

/-! ### name = e -/
theorem ES.set {x : Str} {e : Expr} {pos' : Pos} {d : PyData} (i : Nat) (he : Ev X ρ e d ρ1) (hf : isFix ρ1[i]? = false) (hN : X.N.Nodup) (hi : X.N[i]? = some x) (hx : Loc X.env.scope x) (hs : swapsWith e (some (.Name x pos')) pos.line X.env = pure false := by rfl)
    (hfn : X.fn x = true ∨ X.env.scope.names.lookup x = some .local := by first | exact .inl rfl | exact .inr rfl | assumption) : ES X W ρ (.Assign [.Name x pos'] e pos) (.nx (ρ1.set i (.d d))) := by
  obtain ⟨t, ht, h1⟩ := he
  refine ⟨_, ps_set hN hi hx ht hs hfn, fun σ G H D s h => ?_⟩
  refine h1 σ G H _ s fun v G1 H1 n1 q1 => ?_
  exact h _ G1 H1 (n1.trans (.set n1.st ⟨v, rfl, q1⟩ rfl hf))
theorem ES.setO {x : Str} {e : Expr} {pos' : Pos} {ds : List PyData} (i : Nat) (he : EvO X ρ e ds ρ1) (hf : isFix ρ1[i]? = false) (hN : X.N.Nodup) (hi : X.N[i]? = some x) (hx : Loc X.env.scope x) (hs : swapsWith e (some (.Name x pos')) pos.line X.env = pure false := by rfl)
    (hfn : X.fn x = true ∨ X.env.scope.names.lookup x = some .local := by first | exact .inl rfl | exact .inr rfl | assumption) : ES X W ρ (.Assign [.Name x pos'] e pos) (.nx (ρ1.set i (.own false ds))) := by
  obtain ⟨t, ht, h1⟩ := he
  refine ⟨_, ps_set hN hi hx ht hs hfn, fun σ G H D s h => ?_⟩
  refine h1 σ G H _ s fun p vs G1 H1 n1 hp hg ho hH hd => ?_
  exact h _ G1 H1 (n1.setO hp hg ho hH hd hf)
/-- a raw value (an exception handed on, a class) -/
theorem ES.setV {x : Str} {e : Expr} {pos' : Pos} {w : V} (i : Nat) (he : EvV X ρ e w) (hf : isFix ρ[i]? = false) (hN : X.N.Nodup) (hi : X.N[i]? = some x) (hx : Loc X.env.scope x) (hs : swapsWith e (some (.Name x pos')) pos.line X.env = pure false := by rfl)
    (hfn : X.fn x = true ∨ X.env.scope.names.lookup x = some .local := by first | exact .inl rfl | exact .inr rfl | assumption) : ES X W ρ (.Assign [.Name x pos'] e pos) (.nx (ρ.set i (.v w))) := by
  obtain ⟨t, ht, h1⟩ := he
  refine ⟨_, ps_set hN hi hx ht hs hfn, fun σ G H D s h => ?_⟩
  exact h1 σ G H _ s (h _ G H (.set s rfl rfl hf))

/-! ### targets -/
/-- the target takes d; ws: the slots that it sets -/
def EvG (X : Cx) (ρ : List Den) (tg : Expr) (d : PyData) (ρ' : List Den) (ws : List Nat) : Prop :=
  ∃ g, PG X tg g ∧ ∀ (σ : L2.St) (G H : Hp) (v : V) (Q : L2.St → Hp → Prop), StD X.K G H σ ρ → Dp X.K G v d → (∀ σ' G' H', Nxt X.K G H σ ρ G' H' σ' ρ' → (∀ k, k ∉ ws → σ'[k]? = σ[k]?) → Q σ' H') → g v σ H Q
def EvGs (X : Cx) (ρ : List Den) (ts : List Expr) (ds : List PyData) (ρ' : List Den) (ws : List Nat) : Prop :=
  ∃ g, PGs X ts g ∧ ∀ (σ : L2.St) (G H : Hp) (vs : List V) (Q : L2.St → Hp → Prop), StD X.K G H σ ρ → DpAll X.K G vs ds → (∀ σ' G' H', Nxt X.K G H σ ρ G' H' σ' ρ' → (∀ k, k ∉ ws → σ'[k]? = σ[k]?) → Q σ' H') → g vs σ H Q
theorem EvG.name {x : Str} {d : PyData} (i : Nat) (hf : isFix ρ[i]? = false) (hN : X.N.Nodup) (hi : X.N[i]? = some x) (hx : Loc X.env.scope x)
    (hfn : X.fn x = true ∨ X.env.scope.names.lookup x = some .local := by first | exact .inl rfl | exact .inr rfl | assumption) : EvG X ρ (.Name x pos) d (ρ.set i (.d d)) [i] :=
  ⟨_, pg_name hN hi hx hfn, fun σ G H v Q s hv h => h _ G H (.set s ⟨v, rfl, hv⟩ rfl hf) fun k hk => List.getElem?_set_ne (fun e => hk (by simp [e]))⟩
theorem EvGs.nil : EvGs X ρ [] [] ρ [] := ⟨_, pgs_nil, fun σ G H vs Q s hv h => by
  cases hv
  exact ⟨rfl, h σ G H (.refl s) fun _ _ => rfl⟩⟩
theorem EvGs.cons {e : Expr} {es : List Expr} {d : PyData} {ds : List PyData} {w ws : List Nat} (h1 : EvG X ρ e d ρ1 w) (h2 : EvGs X ρ1 es ds ρ2 ws)
    (hs : (assignEach (e :: es) X.env).map (·.2) = assign e X.env :: (assignEach es X.env).map (·.2) := by rfl) : EvGs X ρ (e :: es) (d :: ds) ρ2 (w ++ ws) := by
  obtain ⟨g, hg, g1⟩ := h1
  obtain ⟨u, hu, g2⟩ := h2
  refine ⟨_, pgs_cons hg hu hs, fun σ G H vs Q s hv h => ?_⟩
  cases hv with
  | cons hv hvs =>
    refine ⟨_, _, rfl, g1 σ G H _ _ s hv fun σ1 G1 H1 n1 e1 => ?_⟩
    exact g2 σ1 G1 H1 _ Q n1.st (DpAll_mono n1.stp.gsub _ _ hvs) fun σ2 G2 H2 n2 e2 => h σ2 G2 H2 (n1.trans n2) fun k hk => (e2 k fun z => hk (List.mem_append_right _ z)).trans (e1 k fun z => hk (List.mem_append_left _ z))
theorem EvG.tup {es : List Expr} {k : Nat} {ds : List PyData} {ws : List Nat} (hc : X.calm = true) (h : EvGs X ρ es ds ρ' ws)
    (hn : (assignEach es X.env).length = ds.length := by rfl) (hst : (assignEach es X.env).findIdx? (·.1) = none := by rfl) : EvG X ρ (.Tuple es k pos) (.tuple ds) ρ' ws := by
  obtain ⟨g, hg, g1⟩ := h
  refine ⟨_, pg_tup hc hg hn hst, fun σ G H v Q s hv h => ?_⟩
  cases hv with
  | tup hq ha => exact ⟨_, _, rfl, SqT_mono s.sub hq, ha.length, g1 σ G H _ Q s ha h⟩
theorem ES.asg {tg e : Expr} {d : PyData} {ws : List Nat} (he : Ev X ρ e d ρ1) (hg : EvG X ρ1 tg d ρ2 ws) (hs : swapsWithSole [tg] e pos.line X.env = pure false := by rfl) (hw : swappedStores [tg] e X.env = pure none := by rfl)
    (h1 : (assignEach [tg] X.env).map (·.2) = [assign tg X.env] := by rfl) : ES X W ρ (.Assign [tg] e pos) (.nx ρ2) := by
  obtain ⟨t, ht, g1⟩ := he
  obtain ⟨g, hg, g2⟩ := hg
  refine ⟨_, ps_asg ht hg hs hw h1, fun σ G H D s h => ?_⟩
  refine g1 σ G H _ s fun v G1 H1 n1 q1 => ?_
  exact g2 σ G1 H1 v _ n1.st q1 fun σ2 G2 H2 n2 _ => h σ2 G2 H2 (n1.trans n2)

/-! ### an owned list changed -/
theorem Nxt.chg {K : PySem.W.Frag} {G H : Hp} {σ : L2.St} {i : Nat} {a : Addr} {fx : Bool} {xs ys : List PyData} {us : List V} (s : StD K G H σ ρ) (hi : ρ[i]? = some (.own fx xs)) (ha : σ[i]? = some (some (.ref a))) (hg : G a = none) (hu : DpAll K G us ys) :
    Nxt K G H σ ρ G (upd H a (.lst us)) σ (ρ.set i (.own fx ys)) := by
  have own_i : Own σ ρ i a := ⟨by rw [hi]; rfl, ha⟩
  have hil : i < ρ.length := (List.getElem?_eq_some_iff.mp hi).1
  have stp : Stp G H (fun b => b = a) G (L2.upd H a (.lst us)) := by
    refine ⟨fun _ _ e => e, fun b h h' => absurd h h', fun b o e n => ?_, fun b h => ?_⟩
    · rw [upd_ne n]; exact e
    · by_cases hb : b = a
      · subst hb; rw [upd_same] at h; cases h
      · rw [upd_ne hb] at h; exact h
  have ownIff : ∀ j b, Own σ (ρ.set i (.own fx ys)) j b → Own σ ρ j b := fun j b ⟨h1, h2⟩ => by
    by_cases e : j = i
    · subst e; exact ⟨by rw [hi]; rfl, h2⟩
    · rw [List.getElem?_set_ne (Ne.symm e)] at h1; exact ⟨h1, h2⟩
  refine ⟨⟨fun _ _ e => e, fun b h h' => absurd h h', fun b o e n => stp.kept b o e fun z => n (z ▸ ⟨i, own_i⟩), stp.dom⟩, ⟨fun b o e => ?_, by simp [s.len], fun j den e => ?_, fun j k b h1 h2 => s.inj j k b (ownIff j b h1) (ownIff k b h2)⟩, fun b ⟨j, o⟩ => .inl ⟨j, ownIff j b o⟩, fun j hj => ⟨?_, rfl⟩⟩
  · have nb : b ≠ a := by
      rintro rfl
      rw [hg] at e; cases e
    rw [upd_ne nb]; exact s.sub b o e
  · rcases get_set e with ⟨e1, e2⟩ | ⟨e1, e2⟩
    · subst e1; subst e2
      exact ⟨a, us, ha, hg, upd_same, hu⟩
    · refine (s.at_ j den e2).keep stp (fun b hb ho z => ?_) fun b z => ?_
      · subst z
        exact e1 (s.inj j i b ⟨by rw [e2]; exact ho, hb⟩ own_i)
      · subst z
        exact (s.own_at own_i).2
  · by_cases e : j = i
    · subst e
      rw [List.getElem?_set_self hil]
      rw [hi] at hj
      cases fx <;> exact hj
    · rw [List.getElem?_set_ne (Ne.symm e)]; exact hj
/-- xs.append(e) -/
theorem ES.append {x : Str} {px pp p2 : Pos} {e : Expr} {fx : Bool} {xs : List PyData} {d : PyData} (i : Nat) (he : Ev X ρ e d ρ1) (hi : ρ1[i]? = some (.own fx xs)) (hz : xs.length < sizeLine)
    (hN : X.N[i]? = some x) (hv : Vis X.env.scope x) (hi0 : isOwn ρ[i]? = true := by rfl) (hd : (x == ("__debug__" : Str)) = false := by decide) (hcd : (x == ("__classdict__" : Str)) = false := by decide)
    (hb : attributeBase (.Name x px) "append" X.env (eval (.Name x px) X.env) = eval (.Name x px) X.env := by rfl)
    (he2 : starEach (e :: []) X.env = (false, eval e X.env) :: starEach [] X.env := by rfl) (hpl : (backTo p2 (starEach [] X.env)).any (·.1) = false := by rfl)
    (hfew : ((backTo p2 (starEach (e :: []) X.env)).all (fun x => !x.1) && (backToKw p2 (keywordEach [] X.env)).all (fun x => x.1.isSome)
      && decide ((e :: []).length + ([] : List Keyword).length + (if ([] : List Keyword).isEmpty then 0 else 1) < 30)) = true := by rfl)
    (hline : (pp.endLine == p2.line) = true := by rfl)
    (hs : swapsWith (.Call (.Attribute (.Name x px) "append" pp) [e] [] p2) none pos.line X.env = pure false := by rfl) :
    ES X W ρ (.Expr (.Call (.Attribute (.Name x px) "append" pp) [e] [] p2) pos) (.nx (ρ1.set i (.own fx (xs ++ [d])))) := by
  obtain ⟨t, ht, h1⟩ := he
  refine ⟨_, ps_expr (pe_bm PySem.F.plainAttrs_list PySem.F.slot_list_append PySem.F.type_list_append mt_append (pe_var hN hv hd hcd) (pa_cons ht pa_nil he2) hb hfew hline he2 hpl) hs, fun σ G H D s h => ?_⟩
  cases e0 : ρ[i]? with
  | none => rw [e0] at hi0; cases hi0
  | some den =>
    rw [e0] at hi0
    cases den with
    | own fx0 ys0 =>
      obtain ⟨a0, vs0, ea, hg0, hH0, _⟩ := s.at_ i _ e0
      refine ⟨_, ea, .inl ⟨rfl, _, SqL.of hH0⟩, ?_⟩
      refine h1 σ G H _ s fun w G2 H2 n2 q2 => ?_
      obtain ⟨a, vs, e, hg, hH, hd⟩ := n2.st.at_ i _ hi
      rw [ea] at e
      cases e
      refine ⟨_, vs, w, rfl, rfl, hH, by rw [hd.length]; exact hz, ?_⟩
      exact h σ G2 _ (n2.trans (.chg n2.st hi ea hg (hd.append (.cons q2 .nil))))
    | _ => cases hi0
/-- xs[j] = e, xs an owned list -/
theorem ES.setIx {x : Str} {px pp : Pos} {b e : Expr} {fx : Bool} {xs : List PyData} {d : PyData} {j : Int} {k : Nat} (i : Nat) (he : Ev X ρ e d ρ1) (hb : Ev X ρ1 b (.int j) ρ2) (hi : ρ2[i]? = some (.own fx xs)) (hk : ixN xs.length j = some k)
    (hN : X.N[i]? = some x) (hv : Vis X.env.scope x) (hi0 : isOwn ρ1[i]? = true := by rfl) (hd : (x == ("__debug__" : Str)) = false := by decide) (hcd : (x == ("__classdict__" : Str)) = false := by decide)
    (ha : ∀ v, assign (.Subscript (.Name x px) b pp) X.env v = (do
      let ov ← holding [v] (eval (.Name x px) X.env)
      let iv ← holding [v, ov] (eval b X.env)
      standAt pp
      holding [v, ov, iv] (setItem ov iv v)
      release [v, ov, iv] []) := by intro _; rfl) (hs : swapsWithSole [.Subscript (.Name x px) b pp] e pos.line X.env = pure false := by rfl) (hw : swappedStores [.Subscript (.Name x px) b pp] e X.env = pure none := by rfl)
    (h1 : (assignEach [.Subscript (.Name x px) b pp] X.env).map (·.2) = [assign (.Subscript (.Name x px) b pp) X.env] := by rfl) :
    ES X W ρ (.Assign [.Subscript (.Name x px) b pp] e pos) (.nx (ρ2.set i (.own fx (xs.set k d)))) := by
  obtain ⟨t, ht, g1⟩ := he
  obtain ⟨u, hu, g2⟩ := hb
  refine ⟨_, ps_asg ht (pg_sub (pe_var hN hv hd hcd) hu set_list ha) hs hw h1, fun σ G H D s h => ?_⟩
  refine g1 σ G H _ s fun v G1 H1 n1 q1 => ?_
  cases e0 : ρ1[i]? with
  | none => rw [e0] at hi0; cases hi0
  | some den =>
    rw [e0] at hi0
    cases den with
    | own fx0 ys0 =>
      obtain ⟨a0, vs0, ea, hg0, hH0, _⟩ := n1.st.at_ i _ e0
      refine ⟨_, ea, ?_⟩
      refine g2 σ G1 H1 _ n1.st fun w G2 H2 n2 q2 => ?_
      cases q2
      obtain ⟨a, vs, e, hg, hH, hd⟩ := n2.st.at_ i _ hi
      rw [ea] at e
      cases e
      refine ⟨_, vs, j, k, rfl, rfl, hH, by rw [hd.length]; exact hk, ?_⟩
      exact h σ G2 _ ((n1.trans n2).trans (.chg n2.st hi ea hg (hd.set (Dp_mono n2.stp.gsub _ _ q1) k)))
    | _ => cases hi0

/-- len(xs), xs an owned list -/
theorem Ev.lenOwn {x : Str} {p px : Pos} {fx : Bool} {xs : List PyData} (i : Nat) (hi : ρ[i]? = some (.own fx xs)) (hg : Gl X "len") (hm : X.mg "len" = none) (hN : X.N[i]? = some x) (hv : Vis X.env.scope x)
    (hd : (x == ("__debug__" : Str)) = false := by decide) (hcd : (x == ("__classdict__" : Str)) = false := by decide) (he : starEach [.Name x px] X.env = (false, eval (.Name x px) X.env) :: starEach [] X.env := by rfl) (hpl : (backTo pos (starEach [] X.env)).any (·.1) = false := by rfl) :
    Ev X ρ (.Call (.Name "len" p) [.Name x px] [] pos) (.int xs.length) ρ := by
  refine ⟨_, pe_callB call_len_seq hg hm PySem.boot_len (pa_cons (pe_var hN hv hd hcd) pa_nil he) (by decide) (by decide) he hpl, fun σ G H Q s h => ?_⟩
  obtain ⟨a, vs, e, hg, hH, hd⟩ := s.at_ i _ hi
  refine ⟨_, e, a, vs, rfl, .inl (SqL.of hH), ?_⟩
  rw [hd.length]
  exact h _ G H (.refl s) (.int _)

/-! ### forgetting, freezing -/
theorem StD.forget {K : PySem.W.Frag} {G H : Hp} {σ : L2.St} {i : Nat} (s : StD K G H σ ρ) (hf : isFix ρ[i]? = false) : Nxt K G H σ ρ G H σ (ρ.set i .un) := by
  have ownIff : ∀ j b, Own σ (ρ.set i .un) j b → Own σ ρ j b := fun j b ⟨h1, h2⟩ => by
    by_cases e : j = i
    · subst e
      cases e1 : (ρ.set j .un)[j]? with
      | none => rw [e1] at h1; cases h1
      | some x =>
        rw [e1] at h1
        rcases get_set e1 with ⟨_, q⟩ | ⟨q, _⟩
        · rw [q] at h1; cases h1
        · exact absurd rfl q
    · rw [List.getElem?_set_ne (Ne.symm e)] at h1; exact ⟨h1, h2⟩
  refine ⟨.refl, ⟨s.sub, by simp [s.len], fun j den e => ?_, fun j k b h1 h2 => s.inj j k b (ownIff j b h1) (ownIff k b h2)⟩, fun b ⟨j, o⟩ => .inl ⟨j, ownIff j b o⟩, fun j hj => ⟨?_, rfl⟩⟩
  · rcases get_set e with ⟨e1, e2⟩ | ⟨e1, e2⟩
    · subst e2; trivial
    · exact s.at_ j den e2
  · have e : j ≠ i := by
      rintro rfl
      rw [hf] at hj; cases hj
    rw [List.getElem?_set_ne (Ne.symm e)]; exact hj
theorem StD.freeze {K : PySem.W.Frag} {G H : Hp} {σ : L2.St} {i : Nat} {xs : List PyData} (s : StD K G H σ ρ) (hi : ρ[i]? = some (.own false xs)) : ∃ G', Nxt K G H σ ρ G' H σ (ρ.set i (.d (.list xs))) := by
  obtain ⟨a, vs, e, hg, hH, hd⟩ := s.at_ i _ hi
  have hs : Same G (upd G a (.lst vs)) := fun b u q => by rw [upd_ne (ne_of_none q hg)]; exact q
  have own_i : Own σ ρ i a := ⟨by rw [hi]; rfl, e⟩
  have ownIff : ∀ j b, Own σ (ρ.set i (.d (.list xs))) j b → j ≠ i ∧ Own σ ρ j b := fun j b ⟨h1, h2⟩ => by
    by_cases e : j = i
    · subst e
      cases e1 : (ρ.set j (.d (.list xs)))[j]? with
      | none => rw [e1] at h1; cases h1
      | some x =>
        rw [e1] at h1
        rcases get_set e1 with ⟨_, q⟩ | ⟨q, _⟩
        · rw [q] at h1; cases h1
        · exact absurd rfl q
    · rw [List.getElem?_set_ne (Ne.symm e)] at h1; exact ⟨e, h1, h2⟩
  refine ⟨upd G a (.lst vs), ⟨hs, fun b h h' => ?_, fun _ _ q _ => q, fun _ q => q⟩, ⟨fun b u q => ?_, by simp [s.len], fun j den q => ?_, fun j k b h1 h2 => s.inj j k b (ownIff j b h1).2 (ownIff k b h2).2⟩, fun b ⟨j, o⟩ => .inl ⟨j, (ownIff j b o).2⟩, fun j hj => ⟨?_, rfl⟩⟩
  · by_cases hb : b = a
    · subst hb; exact .inr ⟨i, own_i⟩
    · rw [upd_ne hb] at h'; exact absurd h h'
  · by_cases hb : b = a
    · subst hb; rw [upd_same] at q; cases q; exact hH
    · rw [upd_ne hb] at q; exact s.sub b u q
  · rcases get_set q with ⟨e1, e2⟩ | ⟨e1, e2⟩
    · subst e1; subst e2
      exact ⟨_, e, .lst (SqL.of upd_same) (DpAll_mono hs _ _ hd)⟩
    · have r := s.at_ j den e2
      cases den with
      | un => trivial
      | d y =>
        obtain ⟨v, e1, q⟩ := r
        exact ⟨v, e1, Dp_mono hs _ _ q⟩
      | own fx ys =>
        obtain ⟨b, us, e3, g, hh, q⟩ := r
        refine ⟨b, us, e3, ?_, hh, DpAll_mono hs _ _ q⟩
        rw [upd_ne]
        · exact g
        · rintro rfl
          exact e1 (s.inj j i b ⟨by rw [e2]; rfl, e3⟩ own_i)
      | v w => exact r
      | exc b dd ks ys =>
        obtain ⟨us, e3, hd, l, q⟩ := r
        exact ⟨us, e3, hd, l, DpAll_mono hs _ _ q⟩
  · have e : j ≠ i := by
      rintro rfl
      rw [hi] at hj; cases hj
    rw [List.getElem?_set_ne (Ne.symm e)]; exact hj
/-- what is known may be less: slots forgotten, owned lists taken as data -/
def Weak (K : PySem.W.Frag) (ρ ρ' : List Den) : Prop := ∀ (G H : Hp) (σ : L2.St), StD K G H σ ρ → ∃ G', Nxt K G H σ ρ G' H σ ρ'
theorem Weak.refl {K : PySem.W.Frag} : Weak K ρ ρ := fun G H σ s => ⟨G, .refl s⟩
theorem Weak.trans {K : PySem.W.Frag} (a : Weak K ρ ρ1) (b : Weak K ρ1 ρ2) : Weak K ρ ρ2 := fun G H σ s => by
  obtain ⟨G1, n1⟩ := a G H σ s
  obtain ⟨G2, n2⟩ := b G1 H σ n1.st
  exact ⟨G2, n1.trans n2⟩
theorem Weak.forget {K : PySem.W.Frag} (i : Nat) (hf : isFix ρ[i]? = false) : Weak K ρ (ρ.set i .un) := fun G H σ s => ⟨G, s.forget hf⟩
theorem Weak.freeze {K : PySem.W.Frag} {xs : List PyData} (i : Nat) (hi : ρ[i]? = some (.own false xs)) : Weak K ρ (ρ.set i (.d (.list xs))) := fun G H σ s => s.freeze hi
theorem Ex.weak {ss : List Stmt} {o : Out} (w : Weak X.K ρ ρ1) (h : Ex X W ρ1 ss o) : Ex X W ρ ss o := by
  obtain ⟨t, ht, g⟩ := h
  refine ⟨t, ht, fun σ G H D s h => ?_⟩
  obtain ⟨G', n⟩ := w G H σ s
  exact g σ G' H D n.st (h.after n)
theorem Ev.weak {e : Expr} {d : PyData} (w : Weak X.K ρ ρ1) (h : Ev X ρ1 e d ρ2) : Ev X ρ e d ρ2 := by
  obtain ⟨t, ht, g⟩ := h
  refine ⟨t, ht, fun σ G H Q s h => ?_⟩
  obtain ⟨G', n⟩ := w G H σ s
  exact g σ G' H Q n.st fun v G2 H2 n2 q => h v G2 H2 (n.trans n2) q
theorem Ex.weakNx {ss : List Stmt} (h : Ex X W ρ ss (.nx ρ1)) (w : Weak X.K ρ1 ρ2) : Ex X W ρ ss (.nx ρ2) := by
  obtain ⟨t, ht, g⟩ := h
  refine ⟨t, ht, fun σ G H D s h => g σ G H D s fun σ1 G1 H1 n1 => ?_⟩
  obtain ⟨G2, n2⟩ := w G1 H1 σ1 n1.st
  exact h σ1 G2 H1 (n1.trans n2)
end
end DL

/-! DL3: what is walked, for, comprehensions, defs, calls. -/
namespace DL
open PySem PySem.Spec PyProof.Rows L2
/-! ### walks -/
def IterOk (K : PySem.W.Frag) (J : It) (G : Hp) (items : List PyData) : Prop :=
  ∀ (G1 H1 : Hp) (i : Nat), Same G G1 → Same G1 H1 →
    (∀ d, items[i]? = some d → J.go i H1 ∧ ∀ x H2, J.yld i H1 x H2 → ∃ G2, Stp G1 H1 (fun _ => False) G2 H2 ∧ Same G2 H2 ∧ Dp K G2 x d) ∧ (i = items.length → J.stop i H1)
def EvI (X : Cx) (ρ : List Den) (tg iter : Expr) (items : List PyData) (ρ' : List Den) : Prop :=
  ∃ wi, PI X tg iter wi ∧ ∀ (σ : L2.St) (G H : Hp) (R : It → Hp → Prop), StD X.K G H σ ρ → (∀ J G' H', Nxt X.K G H σ ρ G' H' σ ρ' → IterOk X.K J G' items → R J H') → wi σ H R
section
variable {X : Cx} {ρ ρ' ρ1 ρ2 : List Den} {pos : Pos}
theorem EvI.list {tg e : Expr} {ds : List PyData} (h : Ev X ρ e (.list ds) ρ') : EvI X ρ tg e ds ρ' := by
  obtain ⟨t, ht, h1⟩ := h
  refine ⟨_, pi_list ht, fun σ G H R s h => ?_⟩
  refine h1 σ G H _ s fun v G1 H1 n1 q1 => ?_
  cases q1 with
  | lst hq ha =>
    rename_i a vs
    refine ⟨_, rfl, ⟨_, n1.st.sub.seq hq⟩, h _ G1 H1 n1 fun G2 H2 i s2 s3 => ⟨fun d hd => ?_, fun hd => ?_⟩⟩
    · obtain ⟨v, hv, qv⟩ := ha.get hd
      refine ⟨⟨vs, v, s3.seq (s2.seq hq), hv⟩, fun x H3 hy => ?_⟩
      obtain ⟨e, f⟩ := hy
      subst e
      have e2 := (f vs (s3.seq (s2.seq hq))).symm.trans hv
      cases e2
      exact ⟨G2, .refl, s3, Dp_mono s2 _ _ qv⟩
    · refine ⟨vs, s3.seq (s2.seq hq), ?_⟩
      rw [ha.length]
      exact Nat.le_of_eq hd.symm
theorem EvI.tup {tg e : Expr} {ds : List PyData} (h : Ev X ρ e (.tuple ds) ρ') : EvI X ρ tg e ds ρ' := by
  obtain ⟨t, ht, h1⟩ := h
  refine ⟨_, pi_tup ht, fun σ G H R s h => ?_⟩
  refine h1 σ G H _ s fun v G1 H1 n1 q1 => ?_
  cases q1 with
  | tup hq ha =>
    rename_i a vs
    refine ⟨_, rfl, ⟨_, SqT_mono n1.st.sub hq⟩, h _ G1 H1 n1 fun G2 H2 i s2 s3 => ⟨fun d hd => ?_, fun hd => ?_⟩⟩
    · obtain ⟨v, hv, qv⟩ := ha.get hd
      refine ⟨⟨vs, v, SqT_mono s3 (SqT_mono s2 hq), hv⟩, fun x H3 hy => ?_⟩
      obtain ⟨e, f⟩ := hy
      subst e
      have e2 := (f vs (SqT_mono s3 (SqT_mono s2 hq))).symm.trans hv
      cases e2
      exact ⟨G2, .refl, s3, Dp_mono s2 _ _ qv⟩
    · refine ⟨vs, SqT_mono s3 (SqT_mono s2 hq), ?_⟩
      rw [ha.length]
      exact Nat.le_of_eq hd.symm
/-- lo, lo + 1, .. -/
def rangeD (lo : Int) (n : Nat) : List PyData := (List.range n).map fun i => .int (lo + (i : Nat))
theorem rangeD_get {lo : Int} {n i : Nat} {d : PyData} (h : (rangeD lo n)[i]? = some d) : i < n ∧ d = .int (lo + (i : Nat)) := by
  unfold rangeD at h
  rw [List.getElem?_map] at h
  by_cases hi : i < n
  · rw [List.getElem?_range hi] at h
    exact ⟨hi, (Option.some.inj h).symm⟩
  · rw [List.getElem?_eq_none (by simpa using hi)] at h
    cases h
theorem rangeD_none {lo : Int} {n i : Nat} (h : (rangeD lo n)[i]? = none) : n ≤ i := by
  have := List.getElem?_eq_none_iff.mp h
  simpa [rangeD] using this
theorem iter_range {K : PySem.W.Frag} {G : Hp} {lo : Int} {n : Nat} : IterOk K (Itr lo n) G (rangeD lo n) := fun G1 H1 i s2 s3 => ⟨fun d hd => by
  obtain ⟨hi, e⟩ := rangeD_get hd
  subst e
  refine ⟨hi, fun x H2 hy => ?_⟩
  obtain ⟨e1, e2⟩ := hy
  subst e1; subst e2
  exact ⟨G1, .refl, s3, .int _⟩, fun hd => by
  have : i = n := by rw [hd]; simp [rangeD]
  exact Nat.le_of_eq this.symm⟩
theorem EvI.range1 {tg a : Expr} {p : Pos} {j : Int} (hg : Gl X "range") (hm : X.mg "range" = none) (ha : Ev X ρ a (.int j) ρ') (h1 : -(2 ^ 62) ≤ j) (h2 : j < 2 ^ 62) (hs : starEach [a] X.env = [(false, eval a X.env)] := by rfl) :
    EvI X ρ tg (.Call (.Name "range" p) [a] [] pos) (rangeD 0 j.toNat) ρ' := by
  obtain ⟨t, ht, g1⟩ := ha
  refine ⟨_, pi_range1 hg hm (pa_cons ht pa_nil hs) hs, fun σ G H R s h => ?_⟩
  refine g1 σ G H _ s fun v G1 H1 n1 q1 => ?_
  cases q1
  exact ⟨j, rfl, h1, h2, h _ G1 H1 n1 iter_range⟩
theorem EvI.range2 {tg a b : Expr} {p : Pos} {i j : Int} (hg : Gl X "range") (hm : X.mg "range" = none) (ha : Ev X ρ a (.int i) ρ1) (hb : Ev X ρ1 b (.int j) ρ') (hz : -(2 ^ 62) ≤ i ∧ i < 2 ^ 62 ∧ -(2 ^ 62) ≤ j ∧ j < 2 ^ 62)
    (hs : starEach [a, b] X.env = [(false, eval a X.env), (false, eval b X.env)] := by rfl) (hs2 : starEach [b] X.env = [(false, eval b X.env)] := by rfl) :
    EvI X ρ tg (.Call (.Name "range" p) [a, b] [] pos) (rangeD i (j - i).toNat) ρ' := by
  obtain ⟨t, ht, g1⟩ := ha
  obtain ⟨u, hu, g2⟩ := hb
  refine ⟨_, pi_range2 hg hm (pa_cons ht (pa_cons hu pa_nil hs2) (by rw [hs, hs2])) hs hs2, fun σ G H R s h => ?_⟩
  refine g1 σ G H _ s fun v G1 H1 n1 q1 => ?_
  refine g2 σ G1 H1 _ n1.st fun w G2 H2 n2 q2 => ?_
  cases q1
  cases q2
  exact ⟨i, j, rfl, hz, h _ G2 H2 (n1.trans n2) iter_range⟩

/-! ### all readings at once -/
theorem PG.any {tg : Expr} : PG X tg (fun v σ H Q => ∃ g, PG X tg g ∧ g v σ H Q) := ⟨fun pins s σ H v u Q I r ⟨g, hg, h⟩ => hg.run pins s σ H v u Q I r h⟩
theorem PSs.any {ss : List Stmt} : PSs X ss (fun D σ H => ∃ t, PSs X ss t ∧ t D σ H) := ⟨fun pins s σ H D I ⟨t, ht, h⟩ => ht.run pins s σ H D I h⟩
theorem PE.any {e : Expr} : PE X e (fun σ H Q => ∃ t, PE X e t ∧ t σ H Q) := ⟨fun pins s σ H Q I ⟨t, ht, h⟩ => ht.run pins s σ H Q I h⟩

/-! ### for -/
variable {W : WX}
/-- what a turn may end in to go on -/
def Goes (K : PySem.W.Frag) (o : Out) (ρ : List Den) : Prop := ∃ ρ', (o = .nx ρ' ∨ o = .cnt ρ') ∧ Weak K ρ' ρ
theorem Goes.nx {K : PySem.W.Frag} : Goes K (.nx ρ) ρ := ⟨ρ, .inl rfl, .refl⟩
theorem Goes.nxW {K : PySem.W.Frag} (h : Weak K ρ ρ1) : Goes K (.nx ρ) ρ1 := ⟨ρ, .inl rfl, h⟩
theorem Goes.cnt {K : PySem.W.Frag} (h : Weak K ρ ρ1) : Goes K (.cnt ρ) ρ1 := ⟨ρ, .inr rfl, h⟩
/-- what a turn that leaves makes of the loop -/
inductive LExit : Out → Out → Prop
  | ret (d : PyData) (r : List Den) : LExit (.ret d r) (.ret d r)
  | exc (c : Addr) (ks : List Str) (ys : List PyData) (r : List Den) : LExit (.exc c ks ys r) (.exc c ks ys r)
  | brk (r : List Den) : LExit (.brk r) (.nx r)
/-- a loop: the turns ahead of j go on, S i is what is known ahead of the turn i; then the items are gone, or the turn j leaves -/
theorem ES.for_core {tg iter : Expr} {body : List Stmt} {items : List PyData} {o : Out} (hi : EvI X ρ tg iter items ρ1) (S : Nat → List Den) (h0 : Weak X.K ρ1 (S 0)) (j : Nat) (hj : j ≤ items.length)
    (hb : ∀ i d, i < j → items[i]? = some d → ∃ ρ2 ws o', EvG X (S i) tg d ρ2 ws ∧ Ex X W ρ2 body o' ∧ Goes X.K o' (S (i + 1)))
    (he : (j = items.length ∧ o = .nx (S j)) ∨ ∃ d ρ2 ws o', items[j]? = some d ∧ EvG X (S j) tg d ρ2 ws ∧ Ex X W ρ2 body o' ∧ LExit o' o) (hc : X.calm = true) (hp : PassesOwn (model X.prog X.w) X.A X.env X.xe)
    (hs : ∀ x, foldedSetIterable iter X.env x = pure x := by intro _; rfl) : ES X W ρ (.For tg iter body [] pos) o := by
  obtain ⟨wi, hwi, g1⟩ := hi
  refine ⟨_, ps_for hp hc hwi PG.any PSs.any hs, fun σ G H D s h => ?_⟩
  refine g1 σ G H _ s fun J G1 H1 n1 it => ?_
  obtain ⟨G0, n0⟩ := h0 G1 H1 σ n1.st
  refine ⟨fun i m σ2 H2 => m = items.length - i ∧ i ≤ j ∧ ∃ G2, Nxt X.K G1 H1 σ ρ1 G2 H2 σ2 (S i), ⟨items.length, by omega, Nat.zero_le _, G0, n0⟩, ?_⟩
  rintro i m σ2 H2 ⟨rfl, hij, G2, n2⟩
  by_cases hlt : i < j
  · have hlen : i < items.length := Nat.lt_of_lt_of_le hlt hj
    have hd := List.getElem?_eq_getElem hlen
    obtain ⟨jg, jy⟩ := (it G2 H2 i n2.stp.gsub n2.st.sub).1 _ hd
    obtain ⟨ρ2, ws, o', hg, ⟨t, ht, hb2⟩, ρ', ho, wk⟩ := hb i _ hlt hd
    obtain ⟨g, hpg, hg2⟩ := hg
    refine .inr ⟨jg, fun σ3 H3 => ∃ G3, Nxt X.K G1 H1 σ ρ1 G3 H3 σ3 (S (i + 1)), fun σ3 H3 ⟨G3, n3⟩ => ⟨items.length - (i + 1), by omega, rfl, hlt, G3, n3⟩, fun x H3 hy => ?_⟩
    obtain ⟨G3, p3, s3, q3⟩ := jy x H3 hy
    refine ⟨g, hpg, hg2 σ2 G3 H3 x _ (n2.st.ext p3 s3) q3 fun σ4 G4 H4 n4 _ => ⟨t, ht, ?_⟩⟩
    have n4' := (n2.trans (.ext n2.st p3 s3)).trans n4
    refine hb2 σ4 G4 H4 _ n4.st ?_
    rcases ho with e | e
    · subst e
      intro σ5 G5 H5 n5
      obtain ⟨G6, n6⟩ := wk G5 H5 σ5 n5.st
      exact ⟨G6, (n4'.trans n5).trans n6⟩
    · subst e
      intro σ5 G5 H5 n5
      obtain ⟨G6, n6⟩ := wk G5 H5 σ5 n5.st
      exact ⟨G6, (n4'.trans n5).trans n6⟩
  · have e : i = j := by omega
    subst e
    rcases he with ⟨e1, e2⟩ | ⟨d, ρ2, ws, o', hd, hg, ⟨t, ht, hb2⟩, ex⟩
    · subst e2
      refine .inl ⟨(it G2 H2 i n2.stp.gsub n2.st.sub).2 e1, h _ G2 H2 (n1.trans n2)⟩
    · obtain ⟨jg, jy⟩ := (it G2 H2 i n2.stp.gsub n2.st.sub).1 _ hd
      obtain ⟨g, hpg, hg2⟩ := hg
      refine .inr ⟨jg, fun _ _ => False, fun _ _ z => z.elim, fun x H3 hy => ?_⟩
      obtain ⟨G3, p3, s3, q3⟩ := jy x H3 hy
      refine ⟨g, hpg, hg2 σ2 G3 H3 x _ (n2.st.ext p3 s3) q3 fun σ4 G4 H4 n4 _ => ⟨t, ht, ?_⟩⟩
      have n4' := n1.trans ((n2.trans (.ext n2.st p3 s3)).trans n4)
      refine hb2 σ4 G4 H4 _ n4.st ?_
      cases ex with
      | ret d ρ' => exact fun v σ5 G5 H5 n5 q => h v σ5 G5 H5 (n4'.trans n5) q
      | exc c ks ys ρ' => exact fun dd vs σ5 G5 H5 n5 => h dd vs σ5 G5 H5 (n4'.trans n5)
      | brk ρ' => exact fun σ5 G5 H5 n5 => h σ5 G5 H5 (n4'.trans n5)
/-- .. to its end -/
theorem ES.for_ {tg iter : Expr} {body : List Stmt} {items : List PyData} (hi : EvI X ρ tg iter items ρ1) (S : Nat → List Den) (h0 : Weak X.K ρ1 (S 0))
    (hb : ∀ i d, items[i]? = some d → ∃ ρ2 ws o', EvG X (S i) tg d ρ2 ws ∧ Ex X W ρ2 body o' ∧ Goes X.K o' (S (i + 1))) (hc : X.calm = true) (hp : PassesOwn (model X.prog X.w) X.A X.env X.xe)
    (hs : ∀ x, foldedSetIterable iter X.env x = pure x := by intro _; rfl) : ES X W ρ (.For tg iter body [] pos) (.nx (S items.length)) :=
  .for_core hi S h0 items.length (Nat.le_refl _) (fun i d _ => hb i d) (.inl ⟨rfl, rfl⟩) hc hp hs

/-! ### comprehensions -/
/-- what is known in the block: the block's own slots forgotten -/
def wipeD (ρ : List Den) : List Nat → List Den
  | [] => ρ
  | v :: vs => (wipeD ρ vs).set v .un
theorem wipe_get {σ : L2.St} {i : Nat} : ∀ {vs : List Nat}, (i ∈ vs ∧ ((wipe σ vs)[i]? = some none ∨ (wipe σ vs)[i]? = none)) ∨ (i ∉ vs ∧ (wipe σ vs)[i]? = σ[i]?)
  | [] => .inr ⟨by simp, rfl⟩
  | v :: vs => by
    unfold wipe
    by_cases e : v = i
    · subst e
      refine .inl ⟨by simp, ?_⟩
      by_cases hi : v < (wipe σ vs).length
      · rw [List.getElem?_set_self hi]; exact .inl rfl
      · rw [List.getElem?_eq_none (by simpa using hi)]; exact .inr rfl
    · rw [List.getElem?_set_ne e]
      rcases wipe_get (σ := σ) (i := i) (vs := vs) with ⟨h1, h2⟩ | ⟨h1, h2⟩
      · exact .inl ⟨List.mem_cons_of_mem _ h1, h2⟩
      · exact .inr ⟨by simp only [List.mem_cons, not_or]; exact ⟨fun q => e q.symm, h1⟩, h2⟩
/-- the block's own slots hold nothing known -/
def NoKn (ρ : List Den) (vs : List Nat) : Prop := ∀ v ∈ vs, ρ[v]? = some .un ∨ ρ[v]? = none
theorem StD.wiped {K : PySem.W.Frag} {G H : Hp} {σ : L2.St} {vs : List Nat} (s : StD K G H σ ρ) (nk : NoKn ρ vs) : StD K G H (wipe σ vs) ρ := by
  have back : ∀ j b, Own (wipe σ vs) ρ j b → Own σ ρ j b := fun j b ⟨h1, h2⟩ => ⟨h1, (wipe_some h2).1⟩
  refine ⟨s.sub, by rw [wipe_length]; exact s.len, fun i den e => ?_, fun j k b h1 h2 => s.inj j k b (back j b h1) (back k b h2)⟩
  rcases wipe_get (σ := σ) (i := i) (vs := vs) with ⟨h1, h2⟩ | ⟨h1, h2⟩
  · rcases nk i h1 with q | q
    · rw [e] at q; cases q; trivial
    · rw [e] at q; cases q
  · rw [h2]; exact s.at_ i den e
theorem own_wipe {σ : L2.St} {vs : List Nat} (nk : NoKn ρ vs) {j : Nat} {b : Addr} : Own (wipe σ vs) ρ j b ↔ Own σ ρ j b := by
  refine ⟨fun ⟨h1, h2⟩ => ⟨h1, (wipe_some h2).1⟩, fun ⟨h1, h2⟩ => ⟨h1, ?_⟩⟩
  rcases wipe_get (σ := σ) (i := j) (vs := vs) with ⟨q1, q2⟩ | ⟨q1, q2⟩
  · rcases nk j q1 with q | q
    · rw [q] at h1; cases h1
    · rw [q] at h1; cases h1
  · rw [q2]; exact h2
theorem wipe_same {σ σ2 : L2.St} {vs : List Nat} (hl : σ2.length = σ.length) (h : ∀ k, k ∉ vs → σ2[k]? = (wipe σ vs)[k]?) : wipe σ2 vs = wipe σ vs := by
  refine List.ext_getElem? fun i => ?_
  rcases wipe_get (σ := σ2) (i := i) (vs := vs) with ⟨h1, h2⟩ | ⟨h1, h2⟩
  · rcases wipe_get (σ := σ) (i := i) (vs := vs) with ⟨_, h4⟩ | ⟨h3, _⟩
    · by_cases hi : i < σ.length
      · have a : i < (wipe σ2 vs).length := by rw [wipe_length, hl]; exact hi
        have b : i < (wipe σ vs).length := by rw [wipe_length]; exact hi
        have e1 : (wipe σ2 vs)[i]? = some none := h2.resolve_right fun z => by
          have := List.getElem?_eq_none_iff.mp z
          omega
        have e2 : (wipe σ vs)[i]? = some none := h4.resolve_right fun z => by
          have := List.getElem?_eq_none_iff.mp z
          omega
        rw [e1, e2]
      · rw [List.getElem?_eq_none (by rw [wipe_length, hl]; omega), List.getElem?_eq_none (by rw [wipe_length]; omega)]
    · exact absurd h1 h3
  · rw [h2]; exact h i h1
theorem Nxt.outOf {K : PySem.W.Frag} {G H G' H' : Hp} {σ σ2 : L2.St} {ρa ρ3 ρb : List Den} {vs : List Nat} (n : Nxt K G H (wipe σ vs) ρa G' H' σ2 ρ3) (hσ : ∀ k, k ∉ vs → σ2[k]? = (wipe σ vs)[k]?) (hρ : ∀ k, k ∉ vs → ρ3[k]? = ρb[k]?) (hla : ρa.length = ρb.length)
    (na : NoKn ρa vs) (nb : NoKn ρb vs) (s : StD K G H σ ρa) : Nxt K G H σ ρa G' H' σ ρb := by
  have e1 : OwnA (wipe σ vs) ρa = OwnA σ ρa := by
    funext b
    exact propext ⟨fun ⟨j, o⟩ => ⟨j, (own_wipe na).mp o⟩, fun ⟨j, o⟩ => ⟨j, (own_wipe na).mpr o⟩⟩
  have σk : ∀ k, k ∉ vs → σ2[k]? = σ[k]? := fun k hk => (hσ k hk).trans (by
    rcases wipe_get (σ := σ) (i := k) (vs := vs) with ⟨h1, _⟩ | ⟨_, h2⟩
    · exact absurd h1 hk
    · exact h2)
  have nv : ∀ {k} {r : List Den}, NoKn r vs → isOwn r[k]? = true → k ∉ vs := fun {k r} nk ho hm => by
    rcases nk k hm with q | q
    · rw [q] at ho; cases ho
    · rw [q] at ho; cases ho
  have back : ∀ j b, Own σ ρb j b → Own σ2 ρ3 j b := fun j b ⟨h1, h2⟩ => by
    have hj := nv nb h1
    exact ⟨by rw [hρ j hj]; exact h1, by rw [σk j hj]; exact h2⟩
  have slen : σ.length = ρb.length := by rw [s.len, hla]
  refine ⟨by rw [← e1]; exact n.stp, ⟨n.st.sub, slen, fun i den e => ?_, fun j k b h1 h2 => n.st.inj j k b (back j b h1) (back k b h2)⟩, fun a ⟨j, o⟩ => ?_, fun i hi => ⟨?_, rfl⟩⟩
  · by_cases hm : i ∈ vs
    · rcases nb i hm with q | q
      · rw [e] at q; cases q; trivial
      · rw [e] at q; cases q
    · rw [← hρ i hm] at e
      have q := n.st.at_ i den e
      rw [σk i hm] at q
      exact q
  · rcases n.own a ⟨j, back j a o⟩ with ⟨k, q⟩ | q
    · exact .inl ⟨k, (own_wipe na).mp q⟩
    · exact .inr q
  · have hm : i ∉ vs := nv na (by
      cases e : ρa[i]? with
      | none => rw [e] at hi; cases hi
      | some x =>
        rw [e] at hi
        cases x with
        | own fx ys => rfl
        | _ => cases hi)
    rw [← hρ i hm]
    exact (n.fix i hi).1
/-- an untracked list that nobody owns changes -/
theorem Nxt.updD {K : PySem.W.Frag} {G H G0 H0 : Hp} {σ σ0 : L2.St} {ρ0 : List Den} {D : Addr} {us ws : List V} (n : Nxt K G0 H0 σ0 ρ0 G H σ ρ) (h0 : H0 D = none) (hg : G D = none) (hn : ¬ OwnA σ ρ D) (hH : H D = some (.lst us)) : Nxt K G0 H0 σ0 ρ0 G (upd H D (.lst ws)) σ ρ := by
  refine ⟨⟨n.stp.gsub, n.stp.fresh, fun b o e no => ?_, fun b h => ?_⟩, ⟨fun b o e => ?_, n.st.len, fun i den e => ?_, n.st.inj⟩, n.own, n.fix⟩
  · rw [upd_ne (ne_of_none e h0)]; exact n.stp.kept b o e no
  · by_cases hb : b = D
    · subst hb; exact h0
    · rw [upd_ne hb] at h; exact n.stp.dom b h
  · rw [upd_ne (ne_of_none e hg)]; exact n.st.sub b o e
  · have q := n.st.at_ i den e
    cases den with
    | un => trivial
    | d y => exact q
    | own fx ys =>
      obtain ⟨a, vs, e1, g, hh, q⟩ := q
      refine ⟨a, vs, e1, g, ?_, q⟩
      rw [upd_ne]
      · exact hh
      · rintro rfl
        exact hn ⟨i, by rw [e]; rfl, e1⟩
    | v w => exact q
    | exc a dd ks ys =>
      obtain ⟨vs, e1, hd, l, q⟩ := q
      refine ⟨vs, e1, ?_, l, q⟩
      rw [upd_ne (ne_of hd hH fun z => by cases z)]
      exact hd
/-- the tests of a comprehension -/
def EvF (X : Cx) (ρ : List Den) (ifs : List Expr) (b : Bool) : Prop :=
  ∃ t, PTs X ifs t ∧ ∀ (σ : L2.St) (G H : Hp) (Q : Bool → Hp → Prop), StD X.K G H σ ρ → (∀ G' H', Nxt X.K G H σ ρ G' H' σ ρ → Q b H') → t σ H Q
theorem EvF.nil : EvF X ρ [] true := ⟨_, pts_nil, fun σ G H Q s h => h G H (.refl s)⟩
theorem EvF.one {c : Expr} {b : Bool} (h : EvT X ρ c b ρ) : EvF X ρ [c] b := by
  obtain ⟨t, ht, h1⟩ := h
  exact ⟨_, pts_one ht, h1⟩
theorem PTs.any {ifs : List Expr} : PTs X ifs (fun σ H Q => ∃ t, PTs X ifs t ∧ t σ H Q) := ⟨fun pins s σ H Q I ⟨t, ht, h⟩ => ht.run pins s σ H Q I h⟩
/-- a context of the comprehension's block -/
def Blk (X : Cx) (scope : Scope) (Y : Cx) : Prop := ∃ (s : Shared) (H : Hp) (C : Addr) (cl : List (Str × Addr)) (fp : List Addr), Y = X.blk s H scope (compEnvC scope cl C X.env) fp
/-- what a turn of a comprehension does, in the block -/
def LcT (X : Cx) (scope : Scope) (vs : List Nat) (ρa : List Den) (tg elt : Expr) (ifs : List Expr) (d : PyData) (o : Option PyData) (ρb : List Den) : Prop :=
  ∃ ρ2 ws, (∀ Y, Blk X scope Y → EvG Y ρa tg d ρ2 ws) ∧ (∀ k ∈ ws, k ∈ vs) ∧ ρ2.length = ρa.length ∧
    match o with
    | some y => (∀ Y, Blk X scope Y → EvF Y ρ2 ifs true) ∧ ∃ ρ3, (∀ Y, Blk X scope Y → Ev Y ρ2 elt y ρ3) ∧ ∀ k, k ∉ vs → ρ3[k]? = ρb[k]?
    | none => (∀ Y, Blk X scope Y → EvF Y ρ2 ifs false) ∧ ∀ k, k ∉ vs → ρ2[k]? = ρb[k]?
/-- a comprehension's transformer, found -/
def LcC (X : Cx) (ρ : List Den) (elt tg iter : Expr) (ifs : List Expr) (scope : Scope) (vs : List Nat) (ds : List PyData) (ρ' : List Den) : Prop :=
  ∃ (wi : TI) (g : TG) (tt : TT) (te : TE), PI X tg iter wi ∧
    (∀ (s : Shared) (H : Hp) (C : Addr) (cl : List (Str × Addr)) (fp : List Addr), PG (X.blk s H scope (compEnvC scope cl C X.env) fp) tg g) ∧
    (∀ (s : Shared) (H : Hp) (C : Addr) (cl : List (Str × Addr)) (fp : List Addr), PTs (X.blk s H scope (compEnvC scope cl C X.env) fp) ifs tt) ∧
    (∀ (s : Shared) (H : Hp) (C : Addr) (cl : List (Str × Addr)) (fp : List Addr), PE (X.blk s H scope (compEnvC scope cl C X.env) fp) elt te) ∧
    ∀ (σ : L2.St) (G H : Hp) (Q : VK), StD X.K G H σ ρ →
      (∀ p vs G' H', Nxt X.K G H σ ρ G' H' σ ρ' → H p = none → G' p = none → (¬ OwnA σ ρ' p) → H' p = some (.lst vs) → DpAll X.K G' vs ds → Q (.ref p) H') → tLc wi g tt te vs σ H Q
theorem LcC.mk {elt tg iter : Expr} {ifs : List Expr} {scope : Scope} {vs : List Nat} {items : List PyData} (hi : EvI X ρ tg iter items ρ1)
    (S : Nat → List Den) (h0 : Weak X.K ρ1 (S 0)) (hlen : ∀ i, (S i).length = (S (i + 1)).length) (nk : ∀ i, NoKn (S i) vs) (o : Nat → Option PyData) (hz : items.length ≤ 1000000)
    (ht : ∀ i d, items[i]? = some d → LcT X scope vs (S i) tg elt ifs d (o i) (S (i + 1))) : LcC X ρ elt tg iter ifs scope vs ((List.range items.length).filterMap o) (S items.length) := by
  obtain ⟨wi, hwi, g1⟩ := hi
  refine ⟨wi,
    fun v σ H Q => ∀ Y, Blk X scope Y → ∃ g, PG Y tg g ∧ g v σ H Q,
    fun σ H Q => ∀ Y, Blk X scope Y → ∃ t, PTs Y ifs t ∧ t σ H Q,
    fun σ H Q => ∀ Y, Blk X scope Y → ∃ t, PE Y elt t ∧ t σ H Q, hwi,
    (fun s H C cl fp => ⟨fun pins s' σ H' v u Q I r h => let ⟨g, hg, h⟩ := h _ ⟨s, H, C, cl, fp, rfl⟩; hg.run pins s' σ H' v u Q I r h⟩),
    (fun s H C cl fp => ⟨fun pins s' σ H' Q I h => let ⟨g, hg, h⟩ := h _ ⟨s, H, C, cl, fp, rfl⟩; hg.run pins s' σ H' Q I h⟩),
    (fun s H C cl fp => ⟨fun pins s' σ H' Q I h => let ⟨g, hg, h⟩ := h _ ⟨s, H, C, cl, fp, rfl⟩; hg.run pins s' σ H' Q I h⟩), fun σ G H Q s h => ?_⟩
  refine g1 σ G H _ s fun J G1 H1 n1 it D hD => ?_
  obtain ⟨G0, n0⟩ := h0 G1 H1 σ n1.st
  have gD : ∀ {G2 : Hp}, Same G2 H1 → G2 D = none := fun {G2} sm => by
    cases e : G2 D with
    | none => rfl
    | some u => rw [sm D u e] at hD; cases hD
  refine ⟨fun i m H2 => m = items.length - i ∧ i ≤ items.length ∧ ∃ G2 us, Nxt X.K G1 H1 σ ρ1 G2 H2 σ (S i) ∧ G2 D = none ∧ (¬ OwnA σ (S i) D) ∧ H2 D = some (.lst us) ∧ DpAll X.K G2 us ((List.range i).filterMap o),
    ⟨items.length, by omega, Nat.zero_le _, G0, [], n0.trans (.ext n0.st (Stp.laidH hD) (n0.st.sub.laidH hD)), gD n0.st.sub, fun ⟨j, ow⟩ => ?_, upd_same, .nil⟩, ?_⟩
  · obtain ⟨_, ws, e⟩ := n0.st.own_at ow
    rw [hD] at e; cases e
  rintro i m H2 ⟨rfl, hil, G2, us, n2, g2, o2, h2, d2⟩
  by_cases hlt : i < items.length
  · have hd := List.getElem?_eq_getElem hlt
    obtain ⟨jg, jy⟩ := (it G2 H2 i n2.stp.gsub n2.st.sub).1 _ hd
    refine .inr ⟨jg, fun H3 => ∃ G2 us, Nxt X.K G1 H1 σ ρ1 G2 H3 σ (S (i + 1)) ∧ G2 D = none ∧ (¬ OwnA σ (S (i + 1)) D) ∧ H3 D = some (.lst us) ∧ DpAll X.K G2 us ((List.range (i + 1)).filterMap o), fun H3 ⟨G3, us3, q⟩ => ⟨items.length - (i + 1), by omega, rfl, hlt, G3, us3, q⟩, fun x H3 hy => ?_⟩
    obtain ⟨G3, p3, s3, q3⟩ := jy x H3 hy
    have st3 := n2.st.ext p3 s3
    have n3 := n2.trans (.ext n2.st p3 s3)
    have g3 : G3 D = none := by
      cases e : G3 D with
      | none => rfl
      | some u => exact absurd (p3.fresh D g2 (by rw [e]; simp)) (by rw [h2]; rintro (z | z); cases z; exact z)
    have h3 : H3 D = some (.lst us) := p3.kept D _ h2 fun z => z
    have w3 := st3.wiped (vs := vs) (nk i)
    obtain ⟨ρ2, ws, hg, hws, hl2, hT⟩ := ht i _ hd
    intro Y hY
    obtain ⟨g, hpg, gg⟩ := hg Y hY
    have eK : Y.K = X.K := by obtain ⟨_, _, _, _, _, rfl⟩ := hY; rfl
    rw [eK] at gg
    refine ⟨g, hpg, gg _ G3 H3 x _ w3 q3 fun σ4 G4 H4 n4 a4 => ?_⟩
    have a4' : ∀ k, k ∉ vs → σ4[k]? = (wipe σ (vs))[k]? := fun k hk => a4 k fun z => hk (hws k z)
    have l4 : σ4.length = σ.length := by rw [n4.st.len, hl2, st3.len]
    refine ⟨wipe_same l4 a4', ?_⟩
    have el : (S i).length = (S (i + 1)).length := hlen i
    -- D through the block's steps
    have keepD : ∀ {G5 H5 : Hp} {ρ5 : List Den}, Nxt X.K G3 H3 (wipe σ (vs)) (S i) G5 H5 σ4 ρ5 → G5 D = none ∧ H5 D = some (.lst us) := fun {G5 H5 ρ5} n5 => by
      have nD : ¬ OwnA (wipe σ (vs)) (S i) D := fun ⟨j, ow⟩ => o2 ⟨j, (own_wipe (nk i)).mp ow⟩
      refine ⟨?_, n5.stp.kept D _ h3 nD⟩
      cases e : G5 D with
      | none => rfl
      | some u => exact absurd (n5.stp.fresh D g3 (by rw [e]; simp)) (by rw [h3]; rintro (z | z); cases z; exact nD z)
    have outD : ∀ {G5 H5 : Hp}, Nxt X.K G3 H3 σ (S i) G5 H5 σ (S (i + 1)) → ¬ OwnA σ (S (i + 1)) D := fun {G5 H5} n5 ow => by
      rcases n5.own D ow with z | z
      · exact o2 z
      · rw [h3] at z; cases z
    intro Y' hY'
    have eK' : Y'.K = X.K := by obtain ⟨_, _, _, _, _, rfl⟩ := hY'; rfl
    cases ho : o i with
    | some y =>
      rw [ho] at hT
      obtain ⟨hF, ρ3, hE, hag⟩ := hT
      obtain ⟨t, ht, gt⟩ := hF Y' hY'
      rw [eK'] at gt
      refine ⟨t, ht, gt _ G4 H4 _ n4.st fun G5 H5 n5 => ?_⟩
      rw [if_pos rfl]
      intro Y2 hY2
      obtain ⟨u, hu, gu⟩ := hE Y2 hY2
      have eK2 : Y2.K = X.K := by obtain ⟨_, _, _, _, _, rfl⟩ := hY2; rfl
      rw [eK2] at gu
      refine ⟨u, hu, gu _ G5 H5 _ n5.st fun v G6 H6 n6 q6 => ?_⟩
      have nn := (n4.trans n5).trans n6
      obtain ⟨gD6, hD6⟩ := keepD nn
      have no := nn.outOf a4' hag el (nk i) (nk (i + 1)) st3
      have nD6 := outD no
      refine ⟨us, hD6, ?_, G6, us ++ [v], (n3.trans no).updD hD gD6 nD6 hD6, gD6, nD6, upd_same, ?_⟩
      · rw [d2.length]
        have h1 : ((List.range i).filterMap o).length ≤ i := Nat.le_trans (List.length_filterMap_le _ _) (by simp)
        rw [sizeLine_eq]
        omega
      · rw [List.range_succ, List.filterMap_append, List.filterMap_cons, ho, List.filterMap_nil]
        exact DpAll.append (DpAll_mono (p3.gsub.trans nn.stp.gsub) _ _ d2) (.cons q6 .nil)
    | none =>
      rw [ho] at hT
      obtain ⟨hF, hag⟩ := hT
      obtain ⟨t, ht, gt⟩ := hF Y' hY'
      rw [eK'] at gt
      refine ⟨t, ht, gt _ G4 H4 _ n4.st fun G5 H5 n5 => ?_⟩
      rw [if_neg Bool.false_ne_true]
      have nn := n4.trans n5
      obtain ⟨gD6, hD6⟩ := keepD nn
      have no := nn.outOf a4' hag el (nk i) (nk (i + 1)) st3
      refine ⟨G5, us, n3.trans no, gD6, outD no, hD6, ?_⟩
      rw [List.range_succ, List.filterMap_append, List.filterMap_cons, ho, List.filterMap_nil, List.append_nil]
      exact DpAll_mono (p3.gsub.trans nn.stp.gsub) _ _ d2
  · have e : i = items.length := by omega
    subst e
    refine .inl ⟨(it G2 H2 _ n2.stp.gsub n2.st.sub).2 rfl, ?_⟩
    exact h D us G2 H2 (n1.trans n2) (n1.stp.dom D hD) g2 o2 h2 d2
/-- as a new list -/
theorem LcC.ev {elt tg iter : Expr} {ifs : List Expr} {scope : Scope} {own : List (Str × Nat)} {ds : List PyData} (h : LcC X ρ elt tg iter ifs scope (own.map (·.2)) ds ρ') (hc : X.calm = true) (hN : X.N.Nodup) (ok : BlkOk X.N X.env.scope scope own)
    (hs : ∀ x, foldedSetIterable iter X.env x = pure x := by intro _; rfl) : EvO X ρ (.ListComp elt [⟨tg, iter, ifs, 0⟩] scope pos) ds ρ' := by
  obtain ⟨wi, g, tt, te, h1, h2, h3, h4, h5⟩ := h
  exact ⟨_, pe_lc hc hN h1 ok h2 h3 h4 hs, h5⟩
/-- name = [..] on one line, the name a local -/
theorem LcC.set {W : WX} {y : Str} {py spos : Pos} {elt tg iter : Expr} {ifs : List Expr} {scope : Scope} {own : List (Str × Nat)} {ds : List PyData} (i : Nat) (h : LcC X ρ elt tg iter ifs scope (own.map (·.2)) ds ρ1) (hc : X.calm = true) (hN : X.N.Nodup) (ok : BlkOk X.N X.env.scope scope own)
    (hf : isFix ρ1[i]? = false) (hy : X.N[i]? = some y) (hyl : X.env.scope.names.lookup y = some .local) (hsw : swapsWith (.ListComp elt [⟨tg, iter, ifs, 0⟩] scope pos) (some (.Name y py)) spos.line X.env = pure true)
    (hs : ∀ x, foldedSetIterable iter X.env x = pure x := by intro _; rfl) : ES X W ρ (.Assign [.Name y py] (.ListComp elt [⟨tg, iter, ifs, 0⟩] scope pos) spos) (.nx (ρ1.set i (.own false ds))) := by
  obtain ⟨wi, g, tt, te, h1, h2, h3, h4, h5⟩ := h
  refine ⟨_, ps_setLc hc hN hy hyl hsw h1 ok h2 h3 h4 hs, fun σ G H D s h => ?_⟩
  refine h5 σ G H _ s fun p vs G1 H1 n1 hp hg ho hH hd => ?_
  exact h _ G1 H1 (n1.setO hp hg ho hH hd hf)
theorem EvO.lc {elt tg iter : Expr} {ifs : List Expr} {scope : Scope} {own : List (Str × Nat)} {items : List PyData} (hi : EvI X ρ tg iter items ρ1) (hc : X.calm = true) (hN : X.N.Nodup) (ok : BlkOk X.N X.env.scope scope own)
    (S : Nat → List Den) (h0 : Weak X.K ρ1 (S 0)) (hlen : ∀ i, (S i).length = (S (i + 1)).length) (nk : ∀ i, NoKn (S i) (own.map (·.2))) (o : Nat → Option PyData) (hz : items.length ≤ 1000000)
    (ht : ∀ i d, items[i]? = some d → LcT X scope (own.map (·.2)) (S i) tg elt ifs d (o i) (S (i + 1)))
    (hs : ∀ x, foldedSetIterable iter X.env x = pure x := by intro _; rfl) : EvO X ρ (.ListComp elt [⟨tg, iter, ifs, 0⟩] scope pos) ((List.range items.length).filterMap o) (S items.length) :=
  (LcC.mk hi S h0 hlen nk o hz ht).ev hc hN ok hs
/-- a comprehension that changes nothing else: f the items' elements -/
theorem LcC.map {α : Type} {elt tg iter : Expr} {scope : Scope} {vs : List Nat} {g : α → PyData} (xs : List α) (f : α → PyData) (hi : EvI X ρ tg iter (xs.map g) ρ1)
    (nk : NoKn ρ1 vs) (hz : xs.length ≤ 1000000) (ht : ∀ x ∈ xs, LcT X scope vs ρ1 tg elt [] (g x) (some (f x)) ρ1) : LcC X ρ elt tg iter [] scope vs (xs.map f) ρ1 := by
  have h := LcC.mk (elt := elt) (ifs := []) hi (fun _ => ρ1) .refl (fun _ => rfl) (fun _ => nk) (fun i => (xs[i]?).map f) (by simpa using hz) (fun i d hd => by
    rw [List.getElem?_map] at hd
    cases e : xs[i]? with
    | none => rw [e] at hd; cases hd
    | some x =>
      rw [e] at hd
      cases hd
      exact ht x (List.mem_of_getElem? e))
  have e : (List.range (xs.map g).length).filterMap (fun i => (xs[i]?).map f) = xs.map f := by
    rw [List.length_map]
    refine List.ext_getElem? fun i => ?_
    have h1 : ∀ n, n ≤ xs.length → (List.range n).filterMap (fun i => (xs[i]?).map f) = (xs.take n).map f := by
      intro n
      induction n with
      | zero => intro _; rfl
      | succ n ih =>
        intro hn
        rw [List.range_succ, List.filterMap_append, ih (by omega), List.take_add_one, List.map_append]
        congr 1
        rw [List.filterMap_cons, List.filterMap_nil, List.getElem?_eq_getElem (by omega)]
        rfl
    rw [h1 _ (Nat.le_refl _), List.take_length]
  rw [e] at h
  exact h
theorem EvO.lcM {α : Type} {elt tg iter : Expr} {scope : Scope} {own : List (Str × Nat)} {g : α → PyData} (xs : List α) (f : α → PyData) (hi : EvI X ρ tg iter (xs.map g) ρ1) (hc : X.calm = true) (hN : X.N.Nodup) (ok : BlkOk X.N X.env.scope scope own)
    (nk : NoKn ρ1 (own.map (·.2))) (hz : xs.length ≤ 1000000) (ht : ∀ x ∈ xs, LcT X scope (own.map (·.2)) ρ1 tg elt [] (g x) (some (f x)) ρ1)
    (hs : ∀ x, foldedSetIterable iter X.env x = pure x := by intro _; rfl) : EvO X ρ (.ListComp elt [⟨tg, iter, [], 0⟩] scope pos) (xs.map f) ρ1 := (LcC.map xs f hi nk hz ht).ev hc hN ok hs
end
end DL

/-! DLG: a def's promise where no guard (a repr under way) runs; its rule, its call, the law's end. -/
namespace DL
open PySem PySem.Spec PyProof.Rows L2
/-- room, and no repr under way -/
structure Rm (k : Nat) (A : Around) : Prop where
  r : Room k A
  g : A.guards = some []
theorem Rm.mono {j k : Nat} {A : Around} (r : Rm k A) (h : j ≤ k) : Rm j A := ⟨r.r.mono h, r.g⟩
theorem Rm.deeper {k : Nat} {A : Around} (r : Rm (k + 1) A) (env : Env) : Rm k (A.deeper env) := ⟨r.r.deeper env, r.g⟩
structure FnG (P : Program) (w : World) (K : PySem.W.Frag) (mg : Str → Option Value) (base : Heap) (k : Nat) (f : Addr) (fd : FuncData) (ps : List Str) (sp : Sp) : Prop where
  len : ∀ vs H Q E, sp vs H Q E → vs.length = ps.length
  go : ∀ (A : Around) (outer : List Env) (s : Shared) (H : Hp) (args : Args) (us : List Value) (vs : List V) (Q : VK) (E : XK),
    Rm k A → Env0 P w K mg base A outer s H → BindsTo s fd args (ps.zip us) → Vals vs us → sp vs H Q E → codeAny (model P w) A (.call (.ref f) args) (CR (L2.CX P w) outer P w H s Q E) s
section
variable {P : Program} {w : World} {K : PySem.W.Frag} {mg : Str → Option Value} {base : Heap}
/-- the rule for a def of the text -/
theorem fun_go {x qual : Str} {st : Stmt} {f : Addr} {fd : FuncData} {N ps : List Str} {k : Nat} {sp : Sp} (F : Fun K x qual st f fd) (S : FnScope N ps (defScope st)) (len : ∀ vs H Q E, sp vs H Q E → vs.length = ps.length)
    (body : ∀ (cdv : Value) (A : Around) (outer : List Env) (s : Shared) (H : Hp) (vs : List V) (Q : VK) (E : XK), Rm k (A.deeper (envOfC qual (defScope st) s.heap.objs.size f cdv)) → sp vs H Q E →
      ∃ t, PSs (cxOf (L2.CX P w) P w K mg base N qual (defScope st) f cdv A outer s H E) (defBody st) t ∧ t { nx := fun _ H' => Q .non H', rt := Q } (L2.start N vs) H) : FnG P w K mg base (k + 1) f fd ps sp := by
  obtain ⟨oc, od, kV, doc, pm, an, cdv, ct, osl, rfl, lk, hcd⟩ := F.ex
  constructor
  · exact len
  intro A outer s H args us vs Q E hr e0 hb rv hsp
  have kp := fun b o e => (e0.bs b o e).1
  have KX := e0.mod.kin.keeps kp
  have here : ∀ y ∈ ps.zip us, (defScope st).names.lookup y.1 = some .local ∨ ((defScope st).names.lookup y.1 = some .cell ∧ ((cellsFrom (s.heap.objs.size + 1) (defScope st).names []).lookup y.1).isSome = true) := by
    rintro ⟨n, v⟩ hy
    have hn := (List.of_mem_zip hy).1
    cases S.par n hn with
    | inl q => exact .inl q
    | inr q => exact .inr ⟨q, PySem.W.cellsFrom_some _ _ _ (.inl q)⟩
  have hlen := len _ _ _ _ hsp
  apply codeAny_call_function hr.r.depth (KX _ _ lk) rfl S.co S.gen rfl (PySem.W.codeRec_of KX hcd) (hb _ _ _ _ ?_)
  apply wpAny_newFunctionEnv_cells S.kind here
  intro env he s1 x
  subst he
  refine ⟨(e0.mod.nolimit.keeps kp).keeps x.toInCall.keep, codeAny_func ?_⟩
  obtain ⟨t, ht, hq⟩ := body cdv A outer s H vs Q E (hr.deeper _) hsp
  have I := inv_start (CX := L2.CX P w) (E := E) (f := f) (cd := cdv) (qual := qual) S hr.r.hd e0 hlen rv x
  refine wpAny_mono (ht.run [] s1 _ H _ I hq) ?_ fun _ _ z => z
  intro fl s' hs
  cases fl with
  | ret u =>
    obtain ⟨v, σ', H', J, r, q⟩ := hs
    exact ⟨v, H', J.os, J.bare, J.base, J.hok, r, q⟩
  | next =>
    obtain ⟨σ', H', J, q⟩ := hs
    exact ⟨V.non, H', J.os, J.bare, J.base, J.hok, rfl, q⟩
  | brk => exact hs.elim fun _ z => z.elim fun _ z => z.2.elim
  | cont => exact hs.elim fun _ z => z.elim fun _ z => z.2.elim
end
section
variable {X : Cx} {k : Nat} {f : Addr} {fd : FuncData} {ps : List Str} {sp : Sp} {x : Str} {p pos : Pos} {e : Expr} {es : List Expr} {t : TA}
theorem go_fn {pins : List (Addr × Obj)} {σ : L2.St} {H : Hp} {s : Shared} {Q : VK} {E : XK} {us : List Value} {vs : List V} (F : FnG X.prog X.w X.K X.mg X.base k f fd ps sp) (hr : Rm k X.A) (hb : Binds X.K fd ps []) (hx : PassesAt (L2.CX X.prog X.w) X σ E)
    (I : Inv X pins σ H s) (r : Vals vs us) (h : sp vs H Q E) : wpAny (model X.prog X.w) X.A (call (.ref f) us) (EP X pins σ Q) X.xe s := by
  have hl := F.len _ _ _ _ h
  rw [r.length] at hl
  have b := hb s us I.kIn (by simpa using hl)
  simp only [List.append_nil] at b
  apply wpAny_call
  refine codeAny_mono (F.go X.A X.stack s H ⟨us, []⟩ us vs Q E hr I.env0 b r h) ?_
  intro z s' hq
  match z, hq with
  | .error e, hq => exact hx pins H s e s' I hq
  | .ok (.ret u), hq => exact I.after hq
/-- f(e, ..): the exceptions wished at the slots -/
theorem pe_go {E : L2.St → XK} (F : FnG X.prog X.w X.K X.mg X.base k f fd ps sp) (hr : Rm k X.A) (hg : Gl X x) (hm : X.mg x = some (.ref f)) (hk : PySem.W.keepIn X.K (.ref f) = true) (hb : Binds X.K fd ps []) (hx : ∀ σ, PassesAt (L2.CX X.prog X.w) X σ (E σ))
    (ha : PA X (e :: es) t) (hdb : (x == ("__debug__" : Str)) = false := by decide) (he : starEach (e :: es) X.env = (false, eval e X.env) :: starEach es X.env := by rfl) (hpl : (backTo pos (starEach es X.env)).any (·.1) = false := by rfl) :
    PE X (.Call (.Name x p) (e :: es) [] pos) (tCallS sp E t) := by
  constructor
  intro pins s σ H Q I h
  apply wpAny_Call_Name_kw (ld_glob I hg hm ?_ hdb)
  apply PySem.W.callWith_K (h₀ := X.base) I.ok.mod.kin hk (thn (ha.run pos pins s σ H _ I h) ?_) he hpl
  rintro us s1 ⟨vs, H1, I1, r, q⟩
  exact ⟨I1.kIn, go_fn F hr hb (hx σ) I1 r q⟩
/-- f(): no argument -/
theorem pe_go0 {E : L2.St → XK} (F : FnG X.prog X.w X.K X.mg X.base k f fd ps sp) (hr : Rm k X.A) (hg : Gl X x) (hm : X.mg x = some (.ref f)) (hk : PySem.W.keepIn X.K (.ref f) = true) (hb : Binds X.K fd ps []) (hx : ∀ σ, PassesAt (L2.CX X.prog X.w) X σ (E σ)) : True := trivial
theorem passNo {σ : L2.St} : PassesAt (L2.CX X.prog X.w) X σ E0 := fun _ _ _ _ _ _ h => by
  obtain ⟨_, _, _, _, _, _, _, _, _, _, _, _, z⟩ := h
  exact z.elim
end
/-! ### the law's end -/
theorem law_go {P : Program} {w : World} {K : PySem.W.Frag} {mg mb : Str → Option Value} {k : Nat} {fa a : Addr} {fd : FuncData} {x : Str} {sp : Sp} {s₁ : Shared} {vs : List Value} {ns : List Int}
    (KX : K.In s₁.heap) (hns : s₁.heap.Ns mainGlobals mg) (hb : s₁.heap.Ns builtinsNs mb) (hbb : ∀ x : Str, x ≠ "__name__" → mb x = bootBuiltins x) (hlim : s₁.heap.NoLimit) (hg : s₁.gens = #[])
    (ha : s₁.heap.get? a = some { cls := .type "list", data := .seq vs.toArray }) (hi : IntsAre vs ns) (hl : ns.length ≤ sizeLine) (hr : Room k callerA)
    (F : ∀ base : Heap, K.In base → base.Ns mainGlobals mg → FnG P w K mg base k fa fd [x] sp) (hbind : ∀ (s : Shared) (u : Value), BindsTo s fd ⟨[u], []⟩ [(x, u)])
    (hsp : ∀ H : Hp, Only H → SqL K H a (ns.map V.int) → sp [.ref a] H (fun v _ => v = .bl true) fun _ _ _ => False) :
    codeAny (model P w) callerA (.call (.ref fa) ⟨[.ref a], []⟩) (fun r s' => r = .ok (.ret (.bool true)) ∧ OldK s₁.heap s'.heap ∧ s'.os = s₁.os ∧ AllBare s'.gens) s₁ := by
  have rv := vals_ints hi
  have lenV := hi.length
  suffices core : ∀ H : Hp, Only H → SqL K H a (ns.map V.int) → HOk P w H s₁.heap → (∀ b, H b ≠ none → b = a) → (H a ≠ none → K.lookup a = none) →
      codeAny (model P w) callerA (.call (.ref fa) ⟨[.ref a], []⟩) (fun r s' => r = .ok (.ret (.bool true)) ∧ OldK s₁.heap s'.heap ∧ s'.os = s₁.os ∧ AllBare s'.gens) s₁ by
    cases hk : K.lookup a with
    | some o =>
      have e := KX a o hk
      rw [ha] at e
      cases e
      refine core (fun _ => none) (fun _ => .inl rfl) (.inr ⟨_, vs.toArray, _, hk, rfl, rfl, rfl, ?_, ?_⟩) (fun b u z => nomatch z) (fun b z => absurd rfl z) (fun z => absurd rfl z)
      · simpa [lenV] using hl
      · simpa using rv
    | none =>
      let ob : Obj := { cls := .type "list", data := .seq vs.toArray }
      refine core (fun b => if b = a then some (.frz ob (.lst (ns.map V.int))) else none) (fun b => ?_) (.inl (.inr ⟨ob, if_pos rfl⟩)) (fun b u z => ?_) (fun b z => ?_) (fun _ => hk)
      · by_cases q : b = a
        · exact .inr ⟨ob, _, if_pos q⟩
        · exact .inl (if_neg q)
      · by_cases q : b = a
        · subst q
          dsimp only at z
          rw [if_pos rfl] at z
          cases z
          exact ⟨ha, by simpa using hl, vs, _, rv, ha⟩
        · dsimp only at z
          rw [if_neg q] at z
          cases z
      · by_cases q : b = a
        · exact q
        · exact absurd (if_neg q) z
  intro H hO hS hok hA hK
  have out : ∀ {b : Addr} {o : Obj}, s₁.heap.get? b = some o → b ≠ a → (hidT s₁.heap H).get? b = some o := fun {b o} e n => hidT_get e (by
    cases q : H b with
    | none => rfl
    | some u => exact absurd (hA b (by simp [q])) n)
  have nd : ∀ {b : Addr} {m : Str → Option Value}, s₁.heap.Ns b m → (hidT s₁.heap H).Ns b m := by
    rintro b m ⟨o, es, ep, e, d, r⟩
    refine ⟨o, es, ep, out e ?_, d, r⟩
    rintro rfl
    rw [ha] at e
    cases e
    cases d
  have inB : K.In (hidT s₁.heap H) := fun b o e => hidT_get (KX b o e) (by
    cases q : H b with
    | none => rfl
    | some u =>
      have z := hA b (by simp [q])
      subst z
      have := hK (by simp [q])
      rw [this] at e
      cases e)
  have md : Mod K mg (hidT s₁.heap H) := by
    obtain ⟨mc, h1, h2⟩ := hlim
    exact ⟨inB, nd hns, ⟨mb, nd hb, hbb⟩, ⟨mc, nd h1, h2⟩⟩
  have e0 : Env0 P w K mg (hidT s₁.heap H) callerA [] s₁ H := ⟨rfl, md, fun b o e => of_hidT e, Nat.le_of_eq (hidT_size _ _), trivial, (fun b hb => by cases hb), hok, .of_eq hg⟩
  refine codeAny_mono ((F _ inB (nd hns)).go callerA [] s₁ H ⟨[.ref a], []⟩ [.ref a] [.ref a] _ _ ⟨hr, rfl⟩ e0 (hbind s₁ (.ref a)) (.cons rfl .nil) (hsp H hO hS)) ?_
  intro r s' h
  match r, h with
  | .error e, h =>
    obtain ⟨_, _, _, _, _, _, _, _, _, _, _, _, z⟩ := h
    exact z.elim
  | .ok (.ret u), h =>
    obtain ⟨v, H', os, bare, un, hok', r', q⟩ := h
    have q' : v = .bl true := q
    subst q'
    have r2 : u = Value.bool true := r'
    subst r2
    refine ⟨rfl, OldK.of_keep ?_, os, bare⟩
    intro b o e
    cases q : H b with
    | none => exact un.keep b o e q (fun z => nomatch z) (fun z => nomatch z)
    | some u =>
      cases hO b with
      | inl z => rw [q] at z; cases z
      | inr z =>
        obtain ⟨ob, xs, z⟩ := z
        have e1 := (hok b _ z).1
        have e2 := (hok' b _ (un.frzs b ob _ z)).1
        rw [e] at e1
        cases e1
        exact e2
theorem walk_go {l : PySem.W.OpenLaw} {n k : Nat} {q : Program} {loose : List Str} {XP : (Str → Option Value) → Heap → Prop} {YP : World → Heap → Prop} {d : DefRec} {K : Params → PySem.W.Frag} {sp : PySem.W.Frag → Sp} {x : Str}
    (hn : l.most = some n) (hn2 : n ≤ sizeLine) (hdf : d.params.defaults = []) (hr : Room k callerA) (hY : ∀ (w : World) (h : Heap), YP w h → (K w.params).In h)
    (F : ∀ (w : World) (mg : Str → Option Value) (fa : Addr) (h : Heap), (K w.params).In h → h.Ns mainGlobals mg → mg d.name = some (.ref fa) →
      ∃ fd : FuncData, (∀ (s : Shared) (u : Value), BindsTo s fd ⟨[u], []⟩ [(x, u)]) ∧ ∀ base : Heap, (K w.params).In base → base.Ns mainGlobals mg → FnG l.prog w (K w.params) mg base k fa fd [x] (sp (K w.params)))
    (hsp : ∀ (K : PySem.W.Frag) (H : Hp) (a : Addr) (ns : List Int), ns.length ≤ n → Only H → SqL K H a (ns.map V.int) → sp K [.ref a] H (fun v _ => v = .bl true) fun _ _ _ => False) :
    PySem.W.WalkO q loose XP YP l.row.toRowW d [] (fun f vs => PySem.call f vs) := by
  apply Att.attach_call hn hdf
  intro w s₀ s₁ mg mb fa o pm cd doc a vs ns G Y ho hd hcd hmg hobj hints hlen hg
  have KX := hY w _ Y
  obtain ⟨fd, hb, hF⟩ := F w mg fa _ KX G.T.g hmg
  exact law_go KX G.T.g G.T.b G.T.builtins G.T.nolimit hg hobj hints (Nat.le_trans hlen hn2) hr hF hb (fun H hO hS => hsp _ H a ns hlen hO hS)
end DL

/-! DL4: defs and their calls. -/
namespace DL
open PySem PySem.Spec PyProof.Rows L2
def outArgs : List Den → List Den → List Den
  | [], _ => []
  | as, [] => as
  | .own true _ :: as, r :: ρ => r :: outArgs as ρ
  | a :: as, _ :: ρ => a :: outArgs as ρ
def argGood : Den → Bool
  | .d _ => true
  | .v _ => true
  | .own true _ => true
  | .un => true
  | _ => false
theorem outArgs_get : ∀ {as ρ : List Den} {i : Nat}, as.length ≤ ρ.length → as.all argGood = true → (outArgs as ρ)[i]? = if isFix as[i]? = true then ρ[i]? else as[i]?
  | [], ρ, i, _, _ => by simp [outArgs, isFix]
  | a :: as, [], i, h, _ => by simp at h
  | a :: as, r :: ρ, i, h, g => by
    have ih := fun j => outArgs_get (as := as) (ρ := ρ) (i := j) (by simpa using h) (by simp only [List.all_cons, Bool.and_eq_true] at g; exact g.2)
    cases a with
    | own fx xs =>
      cases fx with
      | true =>
        cases i with
        | zero => simp [outArgs, isFix]
        | succ i => simpa [outArgs] using ih i
      | false => simp [argGood] at g
    | _ =>
      cases i with
      | zero => simp [outArgs, isFix]
      | succ i => simpa [outArgs] using ih i
theorem outArgs_len : ∀ {as ρ : List Den}, (outArgs as ρ).length = as.length
  | [], ρ => rfl
  | a :: as, [] => by simp [outArgs]
  | a :: as, r :: ρ => by
    have ih := outArgs_len (as := as) (ρ := ρ)
    cases a with
    | own fx xs => cases fx <;> simp [outArgs, ih]
    | _ => simp [outArgs, ih]
/-- what a def hands back -/
def toF (as : List Den) : Out → Option Out
  | .nx ρ => if as.length ≤ ρ.length then some (.ret .none (outArgs as ρ)) else none
  | .ret d ρ => if as.length ≤ ρ.length then some (.ret d (outArgs as ρ)) else none
  | .exc c ks ys ρ => if as.length ≤ ρ.length then some (.exc c ks ys (outArgs as ρ)) else none
  | _ => none
def FPost (K : PySem.W.Frag) (G H : Hp) (vs : List V) (as : List Den) (Q : VK) (E : XK) : Out → Prop
  | .ret x as' => ∀ v G' H', Nxt K G H (vs.map some) as G' H' (vs.map some) as' → Dp K G' v x → Q v H'
  | .exc c ks ys as' => ∀ dd us G' H', Nxt K G H (vs.map some) as G' H' (vs.map some) as' → H' dd = some (.xd (ks.zip us)) → ks.length = us.length → DpAll K G' us ys → E (.ref c) (some dd) H'
  | _ => False
/-- THE PROMISE: where R leads the arguments to o -/
def spD (K : PySem.W.Frag) (R : List Den → Out → Prop) : Sp := fun vs H Q E => ∃ as o G, R as o ∧ StD K G H (vs.map some) as ∧ FPost K G H vs as Q E o
def unds (n : Nat) : List Den := List.replicate n .un
section
variable {K : PySem.W.Frag}
theorem getApp {α : Type} {xs ys : List α} {i : Nat} (h : i < xs.length) : (xs ++ ys)[i]? = xs[i]? := List.getElem?_append_left h
theorem StD.started {G H : Hp} {vs : List V} {as : List Den} {N : List Str} (s : StD K G H (vs.map some) as) (hl : as.length ≤ N.length) : StD K G H (L2.start N vs) (as ++ unds (N.length - as.length)) := by
  have el : vs.length = as.length := by simpa using s.len
  have get1 : ∀ {i : Nat}, i < as.length → (L2.start N vs)[i]? = (vs.map some)[i]? := fun {i} h => by
    unfold L2.start
    exact getApp (by simpa [el] using h)
  have get2 : ∀ {i : Nat} {den : Den}, (as ++ unds (N.length - as.length))[i]? = some den → (i < as.length ∧ as[i]? = some den) ∨ den = .un := fun {i den} e => by
    by_cases h : i < as.length
    · rw [getApp h] at e
      exact .inl ⟨h, e⟩
    · rw [List.getElem?_append_right (by omega)] at e
      exact .inr (List.eq_of_mem_replicate (List.mem_of_getElem? e))
  have own1 : ∀ {i : Nat} {a : Addr}, Own (L2.start N vs) (as ++ unds (N.length - as.length)) i a → Own (vs.map some) as i a := fun {i a} ⟨h1, h2⟩ => by
    cases e : (as ++ unds (N.length - as.length))[i]? with
    | none => rw [e] at h1; cases h1
    | some den =>
      rw [e] at h1
      rcases get2 e with ⟨hi, e2⟩ | e2
      · exact ⟨by rw [e2]; exact h1, by rw [← get1 hi]; exact h2⟩
      · subst e2; cases h1
  refine ⟨s.sub, ?_, fun i den e => ?_, fun i j a h1 h2 => s.inj i j a (own1 h1) (own1 h2)⟩
  · unfold L2.start unds
    simp [el]
  · rcases get2 e with ⟨hi, e2⟩ | e2
    · rw [get1 hi]; exact s.at_ i den e2
    · subst e2; trivial
/-- behind a body: what its arguments are -/
theorem Nxt.ended {G H G' H' : Hp} {vs : List V} {as ρ' : List Den} {N : List Str} {σ' : L2.St} (s : StD K G H (vs.map some) as) (hl : as.length ≤ N.length) (hg : as.all argGood = true)
    (n : Nxt K G H (L2.start N vs) (as ++ unds (N.length - as.length)) G' H' σ' ρ') (hρ : as.length ≤ ρ'.length) : Nxt K G H (vs.map some) as G' H' (vs.map some) (outArgs as ρ') := by
  have el : vs.length = as.length := by simpa using s.len
  have get1 : ∀ {i : Nat}, i < as.length → (L2.start N vs)[i]? = (vs.map some)[i]? := fun {i} h => by
    unfold L2.start
    exact getApp (by simpa [el] using h)
  have fixLt : ∀ {i : Nat}, isFix as[i]? = true → i < as.length := fun {i} h => by
    cases e : as[i]? with
    | none => rw [e] at h; cases h
    | some x => exact (List.getElem?_eq_some_iff.mp e).1
  have ownFix : ∀ {i : Nat}, isOwn as[i]? = true → isFix as[i]? = true := fun {i} h => by
    cases e : as[i]? with
    | none => rw [e] at h; cases h
    | some x =>
      rw [e] at h
      have := List.all_eq_true.mp hg x (List.mem_of_getElem? e)
      cases x with
      | own fx xs =>
        cases fx with
        | true => rfl
        | false => cases this
      | _ => cases h
  have ownEq : OwnA (L2.start N vs) (as ++ unds (N.length - as.length)) = OwnA (vs.map some) as := by
    funext a
    refine propext ⟨fun ⟨i, h1, h2⟩ => ?_, fun ⟨i, h1, h2⟩ => ?_⟩
    · have hi : i < as.length := by
        by_cases h : i < as.length
        · exact h
        · cases e : (as ++ unds (N.length - as.length))[i]? with
          | none => rw [e] at h1; cases h1
          | some den =>
            rw [List.getElem?_append_right (by omega)] at e
            have := List.eq_of_mem_replicate (List.mem_of_getElem? e)
            subst this
            rw [List.getElem?_append_right (by omega), e] at h1
            cases h1
      rw [getApp hi] at h1
      rw [get1 hi] at h2
      exact ⟨i, h1, h2⟩
    · have hi := fixLt (ownFix h1)
      exact ⟨i, by rw [getApp hi]; exact h1, by rw [get1 hi]; exact h2⟩
  have fixK : ∀ {i : Nat}, isFix as[i]? = true → isFix ρ'[i]? = true ∧ σ'[i]? = (vs.map some)[i]? := fun {i} h => by
    have hi := fixLt h
    obtain ⟨h1, h2⟩ := n.fix i (by rw [getApp hi]; exact h)
    exact ⟨h1, by rw [h2, get1 hi]⟩
  have gets : ∀ i, (outArgs as ρ')[i]? = if isFix as[i]? = true then ρ'[i]? else as[i]? := fun i => outArgs_get hρ hg
  have own1 : ∀ {i : Nat} {a : Addr}, Own (vs.map some) (outArgs as ρ') i a → Own σ' ρ' i a := fun {i a} ⟨h1, h2⟩ => by
    rw [gets i] at h1
    by_cases hf : isFix as[i]? = true
    · rw [if_pos hf] at h1
      exact ⟨h1, by rw [(fixK hf).2]; exact h2⟩
    · rw [if_neg hf] at h1
      exact absurd (ownFix h1) hf
  refine ⟨by rw [← ownEq]; exact n.stp, ⟨n.st.sub, by rw [outArgs_len]; simpa using el, fun i den e => ?_, fun i j a h1 h2 => n.st.inj i j a (own1 h1) (own1 h2)⟩, fun a ⟨i, o⟩ => by rw [← ownEq]; exact n.own a ⟨i, own1 o⟩, fun i hi => ⟨?_, rfl⟩⟩
  · rw [gets i] at e
    by_cases hf : isFix as[i]? = true
    · rw [if_pos hf] at e
      rw [← (fixK hf).2]
      exact n.st.at_ i den e
    · rw [if_neg hf] at e
      have q := s.at_ i den e
      have gd := List.all_eq_true.mp hg den (List.mem_of_getElem? e)
      cases den with
      | un => trivial
      | d y =>
        obtain ⟨v, e1, q⟩ := q
        exact ⟨v, e1, Dp_mono n.stp.gsub _ _ q⟩
      | v w => exact q
      | own fx ys =>
        cases fx with
        | true => rw [e] at hf; exact absurd rfl hf
        | false => cases gd
      | exc _ _ _ _ => cases gd
  · rw [gets i, if_pos hi]
    exact (fixK hi).1
end

/-- THE RULE for a def -/
theorem fn_ok {P : Program} {w : World} {K : PySem.W.Frag} {mg : Str → Option Value} {base : Heap} {x qual : Str} {st : Stmt} {f : Addr} {fd : FuncData} {N ps : List Str} {k : Nat} {R : List Den → Out → Prop} (F : Fun K x qual st f fd) (S : FnScope N ps (defScope st)) (hn : ps.length ≤ N.length)
    (hR : ∀ as o, R as o → as.length = ps.length ∧ as.all argGood = true)
    (hb : ∀ (cdv : Value) (A : Around) (outer : List Env) (s : Shared) (H : Hp) (E : XK), Rm k (A.deeper (envOfC qual (defScope st) s.heap.objs.size f cdv)) →
      Takes (cxOf (L2.CX P w) P w K mg base N qual (defScope st) f cdv A outer s H E) (fun cls d _ H' => E cls d H') → ∀ as o, R as o →
      ∃ out, toF as out = some o ∧ Ex (cxOf (L2.CX P w) P w K mg base N qual (defScope st) f cdv A outer s H E) (fun cls d _ H' => E cls d H') (as ++ unds (N.length - as.length)) (defBody st) out) :
    FnG P w K mg base (k + 1) f fd ps (spD K R) := by
  refine fun_go F S (fun vs H Q E h => ?_) (fun cdv A outer s H vs Q E hr h => ?_)
  · obtain ⟨as, o, G, hr, sd, _⟩ := h
    rw [← (hR as o hr).1, ← sd.len]
    simp
  · obtain ⟨as, o, G, hra, sd, fp⟩ := h
    obtain ⟨hl, hg⟩ := hR as o hra
    obtain ⟨out, ho, t, ht, hx⟩ := hb cdv A outer s H E hr (takes_of rfl rfl rfl rfl) as o hra
    refine ⟨t, ht, ?_⟩
    have hle : as.length ≤ N.length := by omega
    refine hx _ G H _ (sd.started hle) ?_
    have len' : ∀ {σ' : L2.St} {G' H' : Hp} {ρ' : List Den}, Nxt K G H (L2.start N vs) (as ++ unds (N.length - as.length)) G' H' σ' ρ' → σ'.length = ρ'.length := fun n => n.st.len
    cases out with
    | nx ρ' =>
      by_cases hρ : as.length ≤ ρ'.length
      · simp only [toF, if_pos hρ, Option.some.injEq] at ho
        subst ho
        intro σ' G' H' n
        exact fp _ G' H' (n.ended sd hle hg hρ) .non
      · simp only [toF, if_neg hρ] at ho
        cases ho
    | ret d ρ' =>
      by_cases hρ : as.length ≤ ρ'.length
      · simp only [toF, if_pos hρ, Option.some.injEq] at ho
        subst ho
        intro v σ' G' H' n q
        exact fp v G' H' (n.ended sd hle hg hρ) q
      · simp only [toF, if_neg hρ] at ho
        cases ho
    | exc c ks ys ρ' =>
      by_cases hρ : as.length ≤ ρ'.length
      · simp only [toF, if_pos hρ, Option.some.injEq] at ho
        subst ho
        intro dd us σ' G' H' n
        exact fp dd us G' H' (n.ended sd hle hg hρ)
      · simp only [toF, if_neg hρ] at ho
        cases ho
    | brk _ => cases ho
    | cnt _ => cases ho

/-! ### calls -/
def argDen (ρ : List Den) : Arg → Den
  | .d x => .d x
  | .v w => .v w
  | .sl i => match ρ[i]? with
    | some (.own _ xs) => .own true xs
    | _ => .un
/-- what is known behind a call: the owned lists that were handed -/
structure WB (ρ1 : List Den) (args : List Arg) (as' ρ2 : List Den) : Prop where
  len : ρ2.length = ρ1.length
  other : ∀ i, (∀ k : Nat, args[k]? ≠ some (.sl i)) → ρ2[i]? = ρ1[i]?
  slot : ∀ (k i : Nat), args[k]? = some (.sl i) → ∃ fl xs ys, ρ1[i]? = some (.own fl xs) ∧ as'[k]? = some (.own true ys) ∧ ρ2[i]? = some (.own fl ys)
  uniq : ∀ (k l i : Nat), args[k]? = some (.sl i) → args[l]? = some (.sl i) → k = l
def noSl : List Arg → Bool
  | [] => true
  | .sl _ :: _ => false
  | _ :: as => noSl as
theorem noSl_get : ∀ {as : List Arg} {k i : Nat}, noSl as = true → as[k]? ≠ some (.sl i)
  | [], k, i, _, h => by simp at h
  | .sl _ :: _, _, _, h, _ => by cases h
  | .d x :: as, 0, i, _, h => by cases h
  | .v x :: as, 0, i, _, h => by cases h
  | .d x :: as, k + 1, i, g, h => noSl_get (as := as) (k := k) (i := i) g (by simpa using h)
  | .v x :: as, k + 1, i, g, h => noSl_get (as := as) (k := k) (i := i) g (by simpa using h)
theorem WB.none {ρ1 as' : List Den} {args : List Arg} (h : noSl args = true) : WB ρ1 args as' ρ1 :=
  ⟨rfl, fun _ _ => rfl, fun k i e => absurd e (noSl_get h), fun k l i e => absurd e (noSl_get h)⟩
/-- one owned list is handed, as the first argument -/
theorem WB.first {ρ1 as' : List Den} {i : Nat} {args : List Arg} {fl : Bool} {xs ys : List PyData} (h : noSl args = true) (hi : ρ1[i]? = some (.own fl xs)) : WB ρ1 (.sl i :: args) (.own true ys :: as') (ρ1.set i (.own fl ys)) := by
  have at0 : ∀ {k j : Nat}, (Arg.sl i :: args)[k]? = some (.sl j) → k = 0 ∧ j = i := fun {k j} e => by
    cases k with
    | zero => cases e; exact ⟨rfl, rfl⟩
    | succ k => exact absurd (by simpa using e) (noSl_get h)
  refine ⟨by simp, fun j hj => ?_, fun k j e => ?_, fun k l j e e' => ?_⟩
  · refine List.getElem?_set_ne fun q => hj 0 ?_
    rw [q]; rfl
  · obtain ⟨rfl, rfl⟩ := at0 e
    exact ⟨fl, xs, ys, hi, rfl, List.getElem?_set_self (List.getElem?_eq_some_iff.mp hi).1⟩
  · rw [(at0 e).1, (at0 e').1]
theorem ArgsOk.len {K : PySem.W.Frag} {G : Hp} {σ : L2.St} : ∀ {vs : List V} {as : List Arg}, ArgsOk K G σ vs as → vs.length = as.length
  | _, _, .nil => rfl
  | _, _, .cons _ t => by simp [ArgsOk.len t]
theorem ArgsOk.get {K : PySem.W.Frag} {G : Hp} {σ : L2.St} : ∀ {vs : List V} {as : List Arg} {i : Nat} {a : Arg}, ArgsOk K G σ vs as → as[i]? = some a → ∃ v, vs[i]? = some v ∧ ArgOk K G σ v a
  | _, _, _, _, .nil, e => by simp at e
  | _, _, 0, _, .cons h _, e => by simp at e; subst e; exact ⟨_, rfl, h⟩
  | _, _, i + 1, a, .cons _ t, e => by
    obtain ⟨v, h1, h2⟩ := ArgsOk.get (i := i) (a := a) t (by simpa using e)
    exact ⟨v, by simpa using h1, h2⟩
theorem Stp.mono {G H G' H' : Hp} {O O' : Addr → Prop} (p : Stp G H O G' H') (h : ∀ a, O a → O' a) : Stp G H O' G' H' :=
  ⟨p.gsub, fun a h1 h2 => (p.fresh a h1 h2).imp id (h a), fun a o e n => p.kept a o e fun z => n (h a z), p.dom⟩
section
variable {K : PySem.W.Frag} {G1 H1 G' H' : Hp} {σ : L2.St} {ρ1 ρ2 as' : List Den} {args : List Arg} {vs : List V}
theorem argGet {i : Nat} {den : Den} (e : (args.map (argDen ρ1))[i]? = some den) : ∃ a, args[i]? = some a ∧ den = argDen ρ1 a := by
  rw [List.getElem?_map] at e
  cases q : args[i]? with
  | none => rw [q] at e; cases e
  | some a => rw [q] at e; exact ⟨a, rfl, (Option.some.inj e).symm⟩
theorem argOwn (s : StD K G1 H1 σ ρ1) (ha : ArgsOk K G1 σ vs args) {k : Nat} {a : Addr} (o : Own (vs.map some) (args.map (argDen ρ1)) k a) : ∃ i, args[k]? = some (.sl i) ∧ Own σ ρ1 i a := by
  obtain ⟨h1, h2⟩ := o
  cases e : (args.map (argDen ρ1))[k]? with
  | none => rw [e] at h1; cases h1
  | some den =>
    rw [e] at h1
    obtain ⟨x, hx, hd⟩ := argGet e
    subst hd
    cases x with
    | d y => cases h1
    | v w => cases h1
    | sl i =>
      obtain ⟨v, hv, hσ⟩ := ha.get hx
      rw [List.getElem?_map, hv] at h2
      cases h2
      refine ⟨i, hx, ?_, hσ⟩
      cases q : ρ1[i]? with
      | none => simp [argDen, q, isOwn] at h1
      | some dn =>
        cases dn with
        | own fl xs => rfl
        | _ => simp [argDen, q, isOwn] at h1
/-- the state that a callee sees -/
theorem StD.handed (s : StD K G1 H1 σ ρ1) (ha : ArgsOk K G1 σ vs args) (u : ∀ (k l i : Nat), args[k]? = some (.sl i) → args[l]? = some (.sl i) → k = l) : StD K G1 H1 (vs.map some) (args.map (argDen ρ1)) := by
  refine ⟨s.sub, by simp [ha.len], fun i den e => ?_, fun k l a h1 h2 => ?_⟩
  · obtain ⟨x, hx, hd⟩ := argGet e
    subst hd
    obtain ⟨v, hv, hq⟩ := ha.get hx
    rw [List.getElem?_map, hv]
    cases x with
    | d y => exact ⟨v, rfl, hq⟩
    | v w => exact congrArg (fun z => some (some z)) hq
    | sl j =>
      cases q : ρ1[j]? with
      | none => simp [argDen, q, SlotOk]
      | some dn =>
        cases dn with
        | own fl xs =>
          obtain ⟨a, us, e1, g, h, d⟩ := s.at_ j _ q
          have hq' : σ[j]? = some (some v) := hq
          rw [e1] at hq'
          cases hq'
          simp only [argDen, q]
          exact ⟨a, us, rfl, g, h, d⟩
        | _ => simp [argDen, q, SlotOk]
  · obtain ⟨i, hi, oi⟩ := argOwn s ha h1
    obtain ⟨j, hj, oj⟩ := argOwn s ha h2
    have e := s.inj i j a oi oj
    subst e
    exact u k l i hi hj
/-- the state behind a call -/
theorem Nxt.called (s : StD K G1 H1 σ ρ1) (ha : ArgsOk K G1 σ vs args) (wb : WB ρ1 args as' ρ2) (n : Nxt K G1 H1 (vs.map some) (args.map (argDen ρ1)) G' H' (vs.map some) as') : Nxt K G1 H1 σ ρ1 G' H' σ ρ2 := by
  have oo : ∀ a, OwnA (vs.map some) (args.map (argDen ρ1)) a → OwnA σ ρ1 a := fun a ⟨k, o⟩ => by
    obtain ⟨i, _, oi⟩ := argOwn s ha o
    exact ⟨i, oi⟩
  have own1 : ∀ {i : Nat} {a : Addr}, Own σ ρ2 i a → Own σ ρ1 i a := fun {i a} ⟨h1, h2⟩ => by
    by_cases hk : ∃ k : Nat, args[k]? = some (.sl i)
    · obtain ⟨k, hk⟩ := hk
      obtain ⟨fl, xs, ys, e1, _, _⟩ := wb.slot k i hk
      exact ⟨by rw [e1]; rfl, h2⟩
    · rw [wb.other i fun k z => hk ⟨k, z⟩] at h1
      exact ⟨h1, h2⟩
  refine ⟨n.stp.mono oo, ⟨n.st.sub, by rw [wb.len]; exact s.len, fun i den e => ?_, fun i j a h1 h2 => s.inj i j a (own1 h1) (own1 h2)⟩, fun a ⟨i, o⟩ => .inl ⟨i, own1 o⟩, fun i hi => ⟨?_, rfl⟩⟩
  · by_cases hk : ∃ k : Nat, args[k]? = some (.sl i)
    · obtain ⟨k, hk⟩ := hk
      obtain ⟨fl, xs, ys, e1, e2, e3⟩ := wb.slot k i hk
      rw [e3] at e
      cases e
      obtain ⟨v, hv, hσ⟩ := ha.get hk
      obtain ⟨a, us, q1, q2, q3, q4⟩ := n.st.at_ k _ e2
      rw [List.getElem?_map, hv] at q1
      cases q1
      exact ⟨a, us, hσ, q2, q3, q4⟩
    · rw [wb.other i fun k z => hk ⟨k, z⟩] at e
      refine (s.at_ i den e).keep n.stp (fun a hx ho z => ?_) fun a z => ?_
      · obtain ⟨k, o⟩ := z
        obtain ⟨j, hj, oj⟩ := argOwn s ha o
        have : i = j := s.inj i j a ⟨by rw [e]; exact ho, hx⟩ oj
        subst this
        exact hk ⟨k, hj⟩
      · obtain ⟨j, oj⟩ := oo a z
        exact (s.own_at oj).2
  · by_cases hk : ∃ k : Nat, args[k]? = some (.sl i)
    · obtain ⟨k, hk⟩ := hk
      obtain ⟨fl, xs, ys, e1, e2, e3⟩ := wb.slot k i hk
      rw [e1] at hi
      rw [e3]
      cases fl with
      | true => rfl
      | false => cases hi
    · rw [wb.other i fun k z => hk ⟨k, z⟩]
      exact hi
end
section
variable {X : Cx} {ρ ρ' ρ1 ρ2 : List Den} {pos : Pos} {W : WX}
/-- f(e, ..) that returns -/
theorem Ev.call {R : List Den → Out → Prop} {k : Nat} {f : Addr} {fd : FuncData} {ps : List Str} {x : Str} {p : Pos} {e : Expr} {es : List Expr} {args : List Arg} {d : PyData} {as' : List Den}
    (F : FnG X.prog X.w X.K X.mg X.base k f fd ps (spD X.K R)) (hr : Rm k X.A) (hg : Gl X x) (hm : X.mg x = some (.ref f)) (hk : PySem.W.keepIn X.K (.ref f) = true) (hb : Binds X.K fd ps [])
    (ha : EvA X ρ (e :: es) args ρ1) (hR : R (args.map (argDen ρ1)) (.ret d as')) (wb : WB ρ1 args as' ρ2)
    (hdb : (x == ("__debug__" : Str)) = false := by decide) (he : starEach (e :: es) X.env = (false, eval e X.env) :: starEach es X.env := by rfl) (hpl : (backTo pos (starEach es X.env)).any (·.1) = false := by rfl) :
    Ev X ρ (.Call (.Name x p) (e :: es) [] pos) d ρ2 := by
  obtain ⟨t, ht, h1⟩ := ha
  refine ⟨_, pe_go (E := fun _ => E0) F hr hg hm hk hb (fun _ => passNo) ht hdb he hpl, fun σ G H Q s h => ?_⟩
  refine h1 σ G H _ s fun vs G1 H1 n1 q1 => ?_
  show spD X.K R vs H1 Q E0
  refine ⟨_, _, G1, hR, n1.st.handed q1 wb.uniq, fun v G' H' n q => ?_⟩
  exact h v G' H' (n1.trans (n.called n1.st q1 wb)) q
/-- f(e, ..) as a statement, that raises -/
theorem ES.callX {R : List Den → Out → Prop} {k : Nat} {f c : Addr} {fd : FuncData} {ps : List Str} {x : Str} {p pos' : Pos} {e : Expr} {es : List Expr} {args : List Arg} {ks : List Str} {ys : List PyData} {as' : List Den}
    (F : FnG X.prog X.w X.K X.mg X.base k f fd ps (spD X.K R)) (hr : Rm k X.A) (hg : Gl X x) (hm : X.mg x = some (.ref f)) (hk : PySem.W.keepIn X.K (.ref f) = true) (hb : Binds X.K fd ps []) (tk : Takes X W)
    (ha : EvA X ρ (e :: es) args ρ1) (hR : R (args.map (argDen ρ1)) (.exc c ks ys as')) (wb : WB ρ1 args as' ρ2)
    (hdb : (x == ("__debug__" : Str)) = false := by decide) (he : starEach (e :: es) X.env = (false, eval e X.env) :: starEach es X.env := by rfl) (hpl : (backTo pos' (starEach es X.env)).any (·.1) = false := by rfl)
    (hs : swapsWith (.Call (.Name x p) (e :: es) [] pos') none pos.line X.env = pure false := by rfl) :
    ES X W ρ (.Expr (.Call (.Name x p) (e :: es) [] pos') pos) (.exc c ks ys ρ2) := by
  obtain ⟨t, ht, h1⟩ := ha
  refine ⟨_, ps_expr (pe_go F hr hg hm hk hb (fun σ => passAt tk σ) ht hdb he hpl) hs, fun σ G H D s h => ?_⟩
  refine h1 σ G H _ s fun vs G1 H1 n1 q1 => ?_
  refine ⟨_, _, G1, hR, n1.st.handed q1 wb.uniq, fun dd us G' H' n q1' q2 q3 => ?_⟩
  exact h dd us σ G' H' (n1.trans (n.called n1.st q1 wb)) q1' q2 q3
end
end DL

/-! DL5: what operators and built-ins do on data. -/
namespace DL
open PySem PySem.Spec PyProof.Rows L2
section
variable {X : Cx} {ρ ρ' ρ1 ρ2 : List Den} {pos : Pos} {K : PySem.W.Frag}
theorem pr_I {C : Int → Int → Prop} {g : Int → Int → Int} {i j : Int} (h : C i j) : PR2 K (rI C fun i j => .int (g i j)) (.int i) (.int j) (.int (g i j)) :=
  .flat fun G H v1 v2 Q s h1 h2 q => by cases h1; cases h2; exact ⟨i, j, rfl, rfl, h, q _ (.int _)⟩
theorem pr_I0 {g : Int → Int → Int} {i j : Int} : PR2 K (rI0 fun i j => .int (g i j)) (.int i) (.int j) (.int (g i j)) :=
  .flat fun G H v1 v2 Q s h1 h2 q => by cases h1; cases h2; exact ⟨i, j, rfl, rfl, q _ (.int _)⟩
theorem pr_B0 {g : Int → Int → Bool} {i j : Int} : PR2 K (rI0 fun i j => .bl (g i j)) (.int i) (.int j) (.bool (g i j)) :=
  .flat fun G H v1 v2 Q s h1 h2 q => by cases h1; cases h2; exact ⟨i, j, rfl, rfl, q _ (.bl _)⟩
theorem Ev.add {a b : Expr} {i j : Int} (ha : Ev X ρ a (.int i) ρ1) (hb : Ev X ρ1 b (.int j) ρ2) : Ev X ρ (.BinOp a .Add b pos) (.int (i + j)) ρ2 := .bin op_add pr_I0 ha hb
theorem Ev.sub {a b : Expr} {i j : Int} (ha : Ev X ρ a (.int i) ρ1) (hb : Ev X ρ1 b (.int j) ρ2) : Ev X ρ (.BinOp a .Sub b pos) (.int (i - j)) ρ2 := .bin op_sub pr_I0 ha hb
theorem Ev.mul {a b : Expr} {i j : Int} (ha : Ev X ρ a (.int i) ρ1) (hb : Ev X ρ1 b (.int j) ρ2) (h : CMulW i j) : Ev X ρ (.BinOp a .Mult b pos) (.int (i * j)) ρ2 := .bin op_mulW (pr_I h) ha hb
theorem Ev.fdiv {a b : Expr} {i j : Int} (ha : Ev X ρ a (.int i) ρ1) (hb : Ev X ρ1 b (.int j) ρ2) (h : CDivW i j) : Ev X ρ (.BinOp a .FloorDiv b pos) (.int (i / j)) ρ2 := .bin op_fdivW (pr_I h) ha hb
theorem Ev.mod {a b : Expr} {i j : Int} (ha : Ev X ρ a (.int i) ρ1) (hb : Ev X ρ1 b (.int j) ρ2) (h : 0 < j) : Ev X ρ (.BinOp a .Mod b pos) (.int (i % j)) ρ2 := .bin op_mod (pr_I (C := fun _ j => 0 < j) h) ha hb
theorem Ev.pow {a b : Expr} {i j : Int} (ha : Ev X ρ a (.int i) ρ1) (hb : Ev X ρ1 b (.int j) ρ2) (h : CPow i j) : Ev X ρ (.BinOp a .Pow b pos) (.int (i ^ j.toNat)) ρ2 := .bin op_pow (pr_I (g := fun i j => i ^ j.toNat) h) ha hb
theorem Ev.shl {a b : Expr} {i j : Int} (ha : Ev X ρ a (.int i) ρ1) (hb : Ev X ρ1 b (.int j) ρ2) (h : CPow i j) : Ev X ρ (.BinOp a .LShift b pos) (.int (i * 2 ^ j.toNat)) ρ2 := .bin op_shl (pr_I (g := fun i j => i * 2 ^ j.toNat) h) ha hb
theorem Ev.neg {a : Expr} {i : Int} (ha : Ev X ρ a (.int i) ρ1) : Ev X ρ (.UnaryOp .USub a pos) (.int (-i)) ρ1 :=
  .un un_neg (fun G H v Q h q => by cases h; exact ⟨i, rfl, q _ (.int _)⟩) ha
theorem Ev.lt {a b : Expr} {i j : Int} (ha : Ev X ρ a (.int i) ρ1) (hb : Ev X ρ1 b (.int j) ρ2) : Ev X ρ (.Compare a [.Lt] [b] pos) (.bool (decide (i < j))) ρ2 := .cmp op_lt (pr_B0 (g := fun i j => decide (i < j))) (nomark _) ha hb
theorem Ev.le {a b : Expr} {i j : Int} (ha : Ev X ρ a (.int i) ρ1) (hb : Ev X ρ1 b (.int j) ρ2) : Ev X ρ (.Compare a [.LtE] [b] pos) (.bool (decide (i ≤ j))) ρ2 := .cmp op_le (pr_B0 (g := fun i j => decide (i ≤ j))) (nomark _) ha hb
theorem EvT.lt {a b : Expr} {i j : Int} (ha : Ev X ρ a (.int i) ρ1) (hb : Ev X ρ1 b (.int j) ρ2) : EvT X ρ (.Compare a [.Lt] [b] pos) (decide (i < j)) ρ2 := .cmp op_lt (pr_B0 (g := fun i j => decide (i < j))) (nomark _) ha hb
theorem EvT.le {a b : Expr} {i j : Int} (ha : Ev X ρ a (.int i) ρ1) (hb : Ev X ρ1 b (.int j) ρ2) : EvT X ρ (.Compare a [.LtE] [b] pos) (decide (i ≤ j)) ρ2 := .cmp op_le (pr_B0 (g := fun i j => decide (i ≤ j))) (nomark _) ha hb
theorem EvT.gt {a b : Expr} {i j : Int} (ha : Ev X ρ a (.int i) ρ1) (hb : Ev X ρ1 b (.int j) ρ2) : EvT X ρ (.Compare a [.Gt] [b] pos) (decide (j < i)) ρ2 := .cmp op_gt (pr_B0 (g := fun i j => decide (j < i))) (nomark _) ha hb
theorem EvT.ge {a b : Expr} {i j : Int} (ha : Ev X ρ a (.int i) ρ1) (hb : Ev X ρ1 b (.int j) ρ2) : EvT X ρ (.Compare a [.GtE] [b] pos) (decide (j ≤ i)) ρ2 := .cmp op_ge (pr_B0 (g := fun i j => decide (j ≤ i))) (nomark _) ha hb
/-- i == j of ints -/
theorem pr_eqI {i j : Int} : PR2 K rEq (.int i) (.int j) (.bool (decide (i = j))) :=
  .flat fun G H v1 v2 Q s h1 h2 q => by
    cases h1; cases h2
    refine ⟨rfl, ?_⟩
    rw [show decide (V.int i = V.int j) = decide (i = j) by rw [dec_int, Bool.beq_eq_decide_eq]]
    exact q _ (.bl _)
theorem pr_neI {i j : Int} : PR2 K rNe (.int i) (.int j) (.bool (decide (i ≠ j))) :=
  .flat fun G H v1 v2 Q s h1 h2 q => by
    cases h1; cases h2
    refine ⟨rfl, ?_⟩
    rw [show (!decide (V.int i = V.int j)) = decide (i ≠ j) by rw [dec_int, Bool.beq_eq_decide_eq]; simp]
    exact q _ (.bl _)
theorem Ev.eqI {a b : Expr} {i j : Int} (ha : Ev X ρ a (.int i) ρ1) (hb : Ev X ρ1 b (.int j) ρ2) : Ev X ρ (.Compare a [.Eq] [b] pos) (.bool (decide (i = j))) ρ2 := .cmp op_eq pr_eqI (nomark _) ha hb
theorem EvT.eqI {a b : Expr} {i j : Int} (ha : Ev X ρ a (.int i) ρ1) (hb : Ev X ρ1 b (.int j) ρ2) : EvT X ρ (.Compare a [.Eq] [b] pos) (decide (i = j)) ρ2 := .cmp op_eq pr_eqI (nomark _) ha hb
theorem EvT.neI {a b : Expr} {i j : Int} (ha : Ev X ρ a (.int i) ρ1) (hb : Ev X ρ1 b (.int j) ρ2) : EvT X ρ (.Compare a [.NotEq] [b] pos) (decide (i ≠ j)) ρ2 := .cmp op_ne pr_neI (nomark _) ha hb
/-- a <= b <= c -/
theorem EvT.leLe {a b c : Expr} {i j k : Int} (ha : Ev X ρ a (.int i) ρ) (hb : Ev X ρ b (.int j) ρ) (hc : Ev X ρ c (.int k) ρ) (hm : lastMarks [.LtE, .LtE] [b, c] = false := by with_unfolding_all rfl) : EvT X ρ (.Compare a [.LtE, .LtE] [b, c] pos) (decide (i ≤ j) && decide (j ≤ k)) ρ :=
  .chain op_le op_le (pr_B0 (g := fun i j => decide (i ≤ j))) (pr_B0 (g := fun i j => decide (i ≤ j))) ha hb hc hm
theorem pr_eqD {d e : PyData} (h1 : SeqAt.shaped d = true) (h2 : SeqAt.shaped e = true) : PR2 K (rEqD K) d e (.bool (PyData.eqv d e)) :=
  .flat fun G H v1 v2 Q s q1 q2 q => ⟨d, e, Dp_mono s _ _ q1, Dp_mono s _ _ q2, h1, h2, q _ (.bl _)⟩
theorem pr_neD {d e : PyData} (h1 : SeqAt.shaped d = true) (h2 : SeqAt.shaped e = true) : PR2 K (rNeD K) d e (.bool (!PyData.eqv d e)) :=
  .flat fun G H v1 v2 Q s q1 q2 q => ⟨d, e, Dp_mono s _ _ q1, Dp_mono s _ _ q2, h1, h2, q _ (.bl _)⟩
theorem pr_eqS {x y : Str} : PR2 K rEq (.str x) (.str y) (.bool (decide (x = y))) :=
  .flat fun G H v1 v2 Q s h1 h2 q => by
    cases h1; cases h2
    refine ⟨rfl, ?_⟩
    rw [show decide (V.str x = V.str y) = decide (x = y) by rw [dec_str]; by_cases e : x = y <;> simp [e]]
    exact q _ (.bl _)

/-! ### repr of data -/
theorem call_reprD (hg : X.A.guards = some []) (hu : X.A.units + 66 < cLine) : CallR X (.builtin "repr") (fun vs H Q => ∃ v d, vs = [v] ∧ Dp X.K H v d ∧ d.showable = true ∧ d.hasDict = false ∧ d.depth ≤ 64 ∧ d.shown.length ≤ sizeLine ∧ Q (.str d.shown) H) := by
  intro pins s σ H xs us Q I r h
  obtain ⟨v, d, rfl, hd, hs, hn, hdp, hz, q⟩ := h
  obtain ⟨u, rfl, ru⟩ := vals1 r
  obtain ⟨as, rd⟩ := Dp.reads I d v u hd ru
  cases hd with
  | non =>
    cases ru
    exact PySem.P.repr_of_none ⟨.str _, H, I.tok _, ⟨_, rfl⟩, q⟩
  | bl b =>
    cases ru
    refine PySem.P.repr_of_bool ?_
    cases b
    · exact ⟨.str _, H, I.tok _, ⟨_, rfl⟩, q⟩
    · exact ⟨.str _, H, I.tok _, ⟨_, rfl⟩, q⟩
  | int i =>
    obtain ⟨t, rfl⟩ := ru
    exact PySem.P.repr_of_int (by simpa [PyData.showable] using hs) ⟨.str _, H, I.tok _, ⟨_, rfl⟩, q⟩
  | str x =>
    obtain ⟨t, rfl⟩ := ru
    exact PySem.P.repr_of_str ⟨.str _, H, I.tok _, ⟨_, rfl⟩, q⟩ hz
  | lst hq ha =>
    cases ru
    refine repr_of_reads' rd hs (fun e => by rw [hn] at e; cases e) hg (by omega) (fun _ _ e => e) (fun h' u tk k => ?_) hz
    exact ⟨.str _, H, I.kept k, ⟨_, rfl⟩, q⟩
  | tup hq ha =>
    cases ru
    refine repr_of_reads' rd hs (fun e => by rw [hn] at e; cases e) hg (by omega) (fun _ _ e => e) (fun h' u tk k => ?_) hz
    exact ⟨.str _, H, I.kept k, ⟨_, rfl⟩, q⟩
/-- data that is shown in few signs -/
structure Nice (d : PyData) : Prop where
  lay : d.canLay0 = true
  dep : d.depth ≤ 60
  shw : d.showable = true
  len : d.shown.length ≤ 1000000
theorem Nice.shaped {d : PyData} (h : Nice d) : SeqAt.shaped d = true := by
  unfold SeqAt.shaped
  rw [h.lay, decide_eq_true (Nat.le_trans h.dep (by decide))]
  rfl
theorem Ev.repr {x : Str} {p : Pos} {e : Expr} {d : PyData} (hx : x = "repr") (hgd : X.A.guards = some []) (hu : X.A.units + 66 < cLine) (hg : Gl X x) (hm : X.mg x = none) (ha : Ev X ρ e d ρ') (nd : Nice d)
    (he : starEach (e :: []) X.env = (false, eval e X.env) :: starEach [] X.env := by rfl) (hpl : (backTo pos (starEach [] X.env)).any (·.1) = false := by rfl) :
    Ev X ρ (.Call (.Name x p) [e] [] pos) (.str d.shown) ρ' := by
  subst hx
  refine .callB (as := [.d d]) (call_reprD hgd hu) (fun σ G H vs Q s ha q => ?_) hg hm (by decide +kernel) (.cons ha .nil he) (by decide) (by decide) he hpl
  cases ha with
  | cons h t =>
    cases t
    refine ⟨_, d, rfl, Dp_mono s _ _ h, nd.shw, PyData.hasDict_of_canLay d nd.lay, Nat.le_trans nd.dep (by decide), ?_, q _ G H .refl s (.str _)⟩
    rw [sizeLine_eq]
    exact Nat.le_trans nd.len (by decide)
end

/-! ### how many signs -/
mutual
def wt : PyData → Nat
  | .list xs => 1 + wtAll xs
  | .tuple xs => 1 + wtAll xs
  | _ => 1
def wtAll : List PyData → Nat
  | [] => 0
  | x :: xs => wt x + wtAll xs
end
mutual
def Gd : PyData → Prop
  | .int i => i.natAbs < 2 ^ 1900
  | .str x => PyData.strOk x = true ∧ x.length ≤ 100
  | .list xs => GdAll xs
  | .tuple xs => GdAll xs
  | .dict _ => False
  | .none => True
  | .bool _ => True
def GdAll : List PyData → Prop
  | [] => True
  | x :: xs => Gd x ∧ GdAll xs
end
/-- few parts, flat, small -/
structure Fits (w h : Nat) (d : PyData) : Prop where
  gd : Gd d
  wt : wt d ≤ w
  dp : d.depth ≤ h
structure FitsAll (w h : Nat) (ds : List PyData) : Prop where
  gd : GdAll ds
  wt : wtAll ds ≤ w
  dp : PyData.depthAll ds ≤ h
theorem Fits.int {i : Int} (h : i.natAbs < 2 ^ 1900) : Fits 1 0 (.int i) := ⟨h, Nat.le_refl _, Nat.le_refl _⟩
theorem Fits.bl {b : Bool} : Fits 1 0 (.bool b) := ⟨trivial, Nat.le_refl _, Nat.le_refl _⟩
theorem Fits.str {x : Str} (h : PyData.strOk x = true) (h2 : x.length ≤ 100) : Fits 1 0 (.str x) := ⟨⟨h, h2⟩, Nat.le_refl _, Nat.le_refl _⟩
theorem FitsAll.nil : FitsAll 0 0 [] := ⟨trivial, Nat.le_refl _, Nat.le_refl _⟩
theorem FitsAll.cons {w w' h h' : Nat} {d : PyData} {ds : List PyData} (a : Fits w h d) (b : FitsAll w' h' ds) : FitsAll (w + w') (max h h') (d :: ds) :=
  ⟨⟨a.gd, b.gd⟩, Nat.add_le_add a.wt b.wt, by
    have h1 := a.dp
    have h2 := b.dp
    simp only [PyData.depthAll]
    omega⟩
theorem FitsAll.map {α : Type} {w h : Nat} {f : α → PyData} : ∀ {xs : List α}, (∀ x ∈ xs, Fits w h (f x)) → FitsAll (xs.length * w) h (xs.map f)
  | [], _ => ⟨trivial, by simp [DL.wtAll], by simp [PyData.depthAll]⟩
  | x :: xs, H => by
    have a := H x (by simp)
    have b := FitsAll.map (xs := xs) fun y hy => H y (List.mem_cons_of_mem _ hy)
    refine ⟨⟨a.gd, b.gd⟩, ?_, ?_⟩
    · have h1 := a.wt
      have h2 := b.wt
      simp only [List.map_cons, DL.wtAll, List.length_cons, Nat.succ_mul]
      omega
    · have h1 := a.dp
      have h2 := b.dp
      simp only [List.map_cons, PyData.depthAll]
      omega
theorem FitsAll.mono {w h w' h' : Nat} {ds : List PyData} (a : FitsAll w h ds) (hw : w ≤ w') (hh : h ≤ h') : FitsAll w' h' ds := ⟨a.gd, Nat.le_trans a.wt hw, Nat.le_trans a.dp hh⟩
theorem Fits.mono {w h w' h' : Nat} {d : PyData} (a : Fits w h d) (hw : w ≤ w') (hh : h ≤ h') : Fits w' h' d := ⟨a.gd, Nat.le_trans a.wt hw, Nat.le_trans a.dp hh⟩
theorem FitsAll.tup {w h : Nat} {ds : List PyData} (a : FitsAll w h ds) : Fits (1 + w) (h + 1) (.tuple ds) := ⟨a.gd, by simp only [DL.wt]; exact Nat.add_le_add_left a.wt 1, by simp only [PyData.depth]; exact Nat.succ_le_succ a.dp⟩
theorem FitsAll.lst {w h : Nat} {ds : List PyData} (a : FitsAll w h ds) : Fits (1 + w) (h + 1) (.list ds) := ⟨a.gd, by simp only [DL.wt]; exact Nat.add_le_add_left a.wt 1, by simp only [PyData.depth]; exact Nat.succ_le_succ a.dp⟩
mutual
theorem Gd.lay : ∀ d : PyData, Gd d → d.canLay0 = true ∧ d.showable = true
  | .none, _ => ⟨rfl, rfl⟩
  | .bool _, _ => ⟨rfl, rfl⟩
  | .int i, h => ⟨rfl, by
    simp only [PyData.showable, decide_eq_true_eq]
    have h' : i.natAbs < 2 ^ 1900 := h
    by_cases z : i.natAbs = 0
    · rw [z]; decide
    · exact Nat.lt_trans ((Nat.log2_lt z).mpr h') (by decide)⟩
  | .str x, h => ⟨by simpa [PyData.canLay0] using h.1, rfl⟩
  | .list xs, h => by
    obtain ⟨h1, h2⟩ := GdAll.lay xs h
    exact ⟨by simpa [PyData.canLay0] using h1, by simpa [PyData.showable] using h2⟩
  | .tuple xs, h => by
    obtain ⟨h1, h2⟩ := GdAll.lay xs h
    exact ⟨by simpa [PyData.canLay0] using h1, by simpa [PyData.showable] using h2⟩
  | .dict _, h => h.elim
theorem GdAll.lay : ∀ ds : List PyData, GdAll ds → PyData.canLayAll0 ds = true ∧ PyData.showableAll ds = true
  | [], _ => ⟨rfl, rfl⟩
  | d :: ds, h => by
    obtain ⟨h1, h2⟩ := Gd.lay d h.1
    obtain ⟨h3, h4⟩ := GdAll.lay ds h.2
    exact ⟨by simp [PyData.canLayAll0, h1, h3], by simp [PyData.showableAll, h2, h4]⟩
end
theorem textFrom_le : ∀ (ts : List Str) (k : Nat) (acc : Str), (textFrom k acc ts).length ≤ acc.length + piled ts
  | [], k, acc => by simp [textFrom, piled]
  | t :: r, k, acc => by
    have ih := textFrom_le r (k + 1) (acc ++ (if k > 0 then ", " else "" : String) ++ t)
    rw [piled_cons]
    show (textFrom (k + 1) (acc ++ (if k > 0 then ", " else "" : String) ++ t) r).length ≤ _
    have e : (acc ++ (if k > 0 then ", " else "" : String) ++ t).length ≤ acc.length + 2 + t.length := by
      rw [Str.length_append, Str.length_append]
      split
      · have : (Str.ofString ", ").length = 2 := by decide
        omega
      · have : (Str.ofString "").length = 0 := by decide
        omega
    omega
mutual
theorem shown_le : ∀ d : PyData, Gd d → d.shown.length + 10 ≤ 1920 * wt d
  | .none, _ => by
    have e : (PyData.shown .none).length = 4 := by decide +kernel
    simp only [wt]; omega
  | .bool b, _ => by
    have e : (PyData.shown (.bool b)).length ≤ 5 := by cases b <;> decide +kernel
    simp only [wt]; omega
  | .int i, h => by
    have h' : i.natAbs < 2 ^ 1900 := h
    have hl : i.natAbs.log2 < 1900 := by
      by_cases z : i.natAbs = 0
      · rw [z]; decide
      · exact (Nat.log2_lt z).mpr h'
    have e := int_text_length_le (k := 1900) (by decide) hl
    have e2 : (PyData.shown (.int i)).length = (toString i).length := by
      show (Str.ofString (toString i)).length = _
      exact PySem.ofString_length _
    simp only [wt]; omega
  | .str x, h => by
    have hx : ∀ c ∈ x.cps.toList, c < 16 ^ 8 := fun c hc => by
      have h1 : (x.cps.all (· < 0x110000)) = true := h.1
      rw [Array.all_eq_true_iff_forall_mem] at h1
      have := h1 c (by simpa using hc)
      simp only [decide_eq_true_eq] at this
      exact Nat.lt_trans this (by decide)
    have e := PySem.StrLaws.reprText_len x hx
    have h2 := h.2
    simp only [wt, PyData.shown]; omega
  | .list xs, h => by
    have e := shownAll_le xs h
    have e2 := textFrom_le (PyData.shownAll xs) 0 "["
    have e3 : (PyData.shown (.list xs)).length = (textFrom 0 "[" (PyData.shownAll xs)).length + 1 := by
      show (textFrom 0 "[" (PyData.shownAll xs) ++ Str.ofString "]").length = _
      rw [Str.length_append]
      congr 1
    have e4 : (Str.ofString "[").length = 1 := by decide
    simp only [wt]; omega
  | .tuple xs, h => by
    have e := shownAll_le xs h
    have e3 : (PyData.shown (.tuple xs)).length ≤ piled (PyData.shownAll xs) + 3 := by
      show (tupleText (PyData.shownAll xs)).length ≤ _
      unfold tupleText
      rw [Str.length_append, Str.length_append]
      have e4 : (Str.ofString "(").length = 1 := by decide
      have e5 : (Str.ofString (if (PyData.shownAll xs).length == 1 then ",)" else ")")).length ≤ 2 := by
        split
        · decide
        · decide
      by_cases z : PyData.shownAll xs = []
      · rw [z] at e5 ⊢
        have e6 : (Str.join (Str.ofString ", ") []).length = 0 := by decide +kernel
        rw [e6, piled_nil]
        omega
      · have e6 := join_length_add _ z
        omega
    simp only [wt]; omega
  | .dict _, h => h.elim
theorem shownAll_le : ∀ ds : List PyData, GdAll ds → piled (PyData.shownAll ds) ≤ 1920 * wtAll ds
  | [], _ => by simp [PyData.shownAll, piled]
  | d :: ds, h => by
    have e1 := shown_le d h.1
    have e2 := shownAll_le ds h.2
    simp only [PyData.shownAll, piled_cons, wtAll]
    omega
end
theorem Fits.nice {w h : Nat} {d : PyData} (f : Fits w h d) (hw : w ≤ 500 := by decide) (hh : h ≤ 60 := by decide) : Nice d :=
  ⟨(Gd.lay d f.gd).1, Nat.le_trans f.dp hh, (Gd.lay d f.gd).2, by
    have e := shown_le d f.gd
    have := f.wt
    omega⟩
end DL

/-! DLZ: zip of two, of three lists or tuples, each of any kind. Printed by gen_zip.py. -/
namespace DL
open PySem PySem.Spec PyProof.Rows L2
theorem neA {a b : Nat} (h : @Ne Nat a b) : @Ne Addr a b := h
theorem notIn2 {x a b : Nat} (h1 : @Ne Nat x a) (h2 : @Ne Nat x b) : (x : Addr) ∉ ([a, b] : List Addr) := fun h => by
  cases h with
  | head => exact h1 rfl
  | tail _ h =>
    cases h with
    | head => exact h2 rfl
    | tail _ h => cases h
theorem sepZ2 (I a1 a2 : Nat) (h1 : a1 < I) (h2 : a2 < I) : ZipSep2 (I + 4) (I + 2) (I + 3) I (I + 1) [I, a1] [I + 1, a2] := by
  constructor <;> first | (refine neA ?_; omega) | exact List.mem_cons_self | (refine notIn2 ?_ ?_ <;> omega)
theorem sepZ3 (I a1 a2 a3 : Nat) (h1 : a1 < I) (h2 : a2 < I) (h3 : a3 < I) : ZipSep3 (I + 5) (I + 3) (I + 4) I (I + 1) (I + 2) [I, a1] [I + 1, a2] [I + 2, a3] := by
  constructor <;> first | (refine neA ?_; omega) | exact List.mem_cons_self | (refine notIn2 ?_ ?_ <;> omega)
theorem ltNe {a I : Nat} (m : Nat) (h : a < I) : @Ne Addr a (I + m) := neA (by omega)
theorem geOf5 {c I : Nat} (h : c ∈ ([I + 4, I + 2, I + 3, I, I + 1] : List Nat)) : I ≤ c := by
  simp only [List.mem_cons, List.not_mem_nil, or_false] at h
  omega
theorem geOf6 {c I : Nat} (h : c ∈ ([I + 5, I + 3, I + 4, I, I + 1, I + 2] : List Nat)) : I ≤ c := by
  simp only [List.mem_cons, List.not_mem_nil, or_false] at h
  omega
/-- a list (true) or a tuple (false) -/
def seqD : Bool → List PyData → PyData
  | true, ds => .list ds
  | false, ds => .tuple ds
def SqK (K : PySem.W.Frag) (H : Hp) : Bool → Addr → List V → Prop
  | true, a, xs => SqL K H a xs
  | false, a, xs => SqT K H a xs
def HasK (h : Heap) : Bool → Addr → Array Value → Prop
  | true, a, its => h.IsList a its
  | false, a, its => h.IsTuple a its
def ItK (h : Heap) : Bool → Addr → Addr → Nat → Prop
  | true, it, a, i => h.IsListIter it a i
  | false, it, a, i => h.IsTupleIter it a i
def itObj : Bool → Addr → Obj
  | true, a => { cls := .type "list_iterator", data := .fields #[.ref a, .int 0 0] }
  | false, a => { cls := .type "tuple_iterator", data := .fields #[.ref a, .int 0 0] }
theorem SqK.mono {K : PySem.W.Frag} {H H' : Hp} {k : Bool} {a : Addr} {xs : List V} (e : Same H H') (h : SqK K H k a xs) : SqK K H' k a xs := by
  cases k
  · exact SqT_mono e h
  · exact e.seq h
theorem ItK.at {h h' : Heap} {k : Bool} {it a : Addr} {i : Nat} (x : ItK h k it a i) (e : ∀ o, h.get? it = some o → h'.get? it = some o) : ItK h' k it a i := by
  cases k
  · obtain ⟨o, ho, r⟩ := x; exact ⟨o, e o ho, r⟩
  · obtain ⟨o, ho, r⟩ := x; exact ⟨o, e o ho, r⟩
theorem ItK.obj {h : Heap} {k : Bool} {it a : Addr} {i : Nat} (x : ItK h k it a i) : ∃ o, h.get? it = some o ∧ ∀ v, o.data ≠ .cell v := by
  cases k
  · obtain ⟨o, ho, _, d⟩ := x; exact ⟨o, ho, fun v z => by rw [d] at z; cases z⟩
  · obtain ⟨o, ho, _, d⟩ := x; exact ⟨o, ho, fun v z => by rw [d] at z; cases z⟩
theorem ItK.new {h : Heap} {k : Bool} {it a : Addr} (e : h.get? it = some (itObj k a)) : ItK h k it a 0 := by
  cases k
  · exact ⟨_, e, rfl, rfl⟩
  · exact ⟨_, e, rfl, rfl⟩
theorem HasK.lt {h : Heap} {k : Bool} {a : Addr} {its : Array Value} (x : HasK h k a its) : a < h.objs.size := by
  cases k
  · obtain ⟨o, ho, _⟩ := x; exact Heap.lt_size ho
  · obtain ⟨o, ho, _⟩ := x; exact Heap.lt_size ho
theorem beginsK (k : Bool) (a : Addr) (its : Array Value) : Begins (.ref a) (itObj k a) fun h => HasK h k a its := by
  cases k
  · exact begins_tuple a its
  · exact begins_list a its
theorem drawsK {prog : Program} {w : World} {A : Around} (hh : A.handled = none) (k : Bool) (it a : Addr) (hne : a ≠ it) (its : Array Value) :
    Draws prog w A it [it, a] its.size (fun i v => its[i]? = some v) (fun i h => ItK h k it a i ∧ HasK h k a its) := by
  cases k
  · exact Draws.tuple hh it a hne its
  · exact Draws.list hh it a hne its
theorem hasK {X : Cx} {pins : List (Addr × Obj)} {σ : L2.St} {H : Hp} {s : Shared} {k : Bool} {a : Addr} {xs : List V} (I : L2.Inv X pins σ H s) (h : SqK X.K H k a xs) : ∃ its : List Value, Vals xs its ∧ HasK s.heap k a its.toArray := by
  cases k
  · obtain ⟨its, r, p, _⟩ := I.tuple h
    exact ⟨its, r, p⟩
  · obtain ⟨its, r, p, _⟩ := I.list h
    exact ⟨its, r, p.isList⟩
theorem injK {X : Cx} {pins : List (Addr × Obj)} {σ : L2.St} {H : Hp} {s : Shared} {k : Bool} {a : Addr} {xs ys : List V} (I : L2.Inv X pins σ H s) (h : SqK X.K H k a xs) (h' : SqK X.K H k a ys) : xs = ys := by
  cases k
  · exact I.tuple_inj h h'
  · exact I.list_inj h h'
theorem dpK {K : PySem.W.Frag} {G : Hp} {k : Bool} {ds : List PyData} {v : V} (h : Dp K G v (seqD k ds)) : ∃ a vs, v = .ref a ∧ SqK K G k a vs ∧ DpAll K G vs ds := by
  cases k
  · cases h with
    | tup hq ha => exact ⟨_, _, rfl, hq, ha⟩
  · cases h with
    | lst hq ha => exact ⟨_, _, rfl, hq, ha⟩
/-! ### zip of 2 -/
def ItZ2 (K : PySem.W.Frag) (k1 k2 : Bool) (a1 a2 : Addr) : It :=
  ⟨fun i H => ∃ (xs1 xs2 : List V) (x1 x2 : V), SqK K H k1 a1 xs1 ∧ SqK K H k2 a2 xs2 ∧ xs1[i]? = some x1 ∧ xs2[i]? = some x2,
    fun i H v H' => ∃ (T : Addr) (x1 x2 : V), v = .ref T ∧ H T = none ∧ H' = upd H T (.tup [x1, x2]) ∧ (∀ l, SqK K H k1 a1 l → l[i]? = some x1) ∧ (∀ l, SqK K H k2 a2 l → l[i]? = some x2),
    fun i H => ∃ xs1 xs2 : List V, SqK K H k1 a1 xs1 ∧ SqK K H k2 a2 xs2 ∧ i ≤ xs1.length ∧ i ≤ xs2.length ∧ (i = xs1.length ∨ i = xs2.length)⟩
theorem turn_z2 {P : Program} {w : World} {K : PySem.W.Frag} {elts : List Expr} {kk : Nat} {tpos : Pos} {k1 k2 : Bool} {a1 a2 z TI TO i1 i2 : Addr} (S : ZipSep2 z TI TO i1 i2 [i1, a1] [i2, a2]) (n1 : a1 ≠ i1) (n2 : a2 ≠ i2) :
    Turn P w K (.Tuple elts kk tpos) (ItZ2 K k1 k2 a1 a2) [z, TI, TO, i1, i2] z (fun i h => IsZip h z TI TO .none ∧ IsTupOf2 h TI (.ref i1) (.ref i2) ∧ (∃ x1 x2, IsTupOf2 h TO x1 x2) ∧ ItK h k1 i1 a1 i ∧ ItK h k2 i2 a2 i) where
  mem := by simp
  obj := fun i h st c hc => by
    obtain ⟨hz, hTI, ⟨y1, y2, hTO⟩, h1, h2⟩ := st
    simp only [List.mem_cons, List.not_mem_nil, or_false] at hc
    rcases hc with q | q | q | q | q
    · rw [q]; exact ⟨_, hz, fun v q => nomatch q⟩
    · rw [q]; exact ⟨_, hTI, fun v q => nomatch q⟩
    · rw [q]; exact ⟨_, hTO, fun v q => nomatch q⟩
    · rw [q]; exact h1.obj
    · rw [q]; exact h2.obj
  keep := fun i h h' st k => by
    obtain ⟨hz, hTI, ⟨y1, y2, hTO⟩, h1, h2⟩ := st
    exact ⟨k z (by simp) _ hz, k TI (by simp) _ hTI, ⟨y1, y2, k TO (by simp) _ hTO⟩, h1.at fun o q => k i1 (by simp) o q, h2.at fun o q => k i2 (by simp) o q⟩
  item := by
    intro X hP hw hK hc i pins s σ H E I hf st hg
    subst hP hw hK
    obtain ⟨hz, hTI, ⟨y1, y2, hTO⟩, h1, h2⟩ := st
    obtain ⟨xs1, xs2, x1, x2, q1, q2, e1, e2⟩ := hg
    obtain ⟨t1, r1, p1⟩ := hasK I q1
    obtain ⟨u1, hu1, ru1⟩ := r1.get e1
    have l1 : i < t1.toArray.size := by
      have := (List.getElem?_eq_some_iff.mp hu1).1
      simpa using this
    obtain ⟨t2, r2, p2⟩ := hasK I q2
    obtain ⟨u2, hu2, ru2⟩ := r2.get e2
    have l2 : i < t2.toArray.size := by
      have := (List.getElem?_eq_some_iff.mp hu2).1
      simpa using this
    have hh : X.A.in1.handled = none := I.ok.hd hc
    have hzl := Heap.lt_size hz
    refine wpAny_pyNext_zipD2_item S (drawsK hh k1 i1 a1 n1 t1.toArray) (drawsK hh k2 i2 a2 n2 t2.toArray) hz hTI hTO ⟨h1, p1⟩ ⟨h2, p2⟩ l1 l2 ?_
    intro w1 w2 h' tk f1 f2 z' TO' s1 s2 hT hsz hk
    have g1 : w1 = u1 := by
      have e : t1.toArray[i]? = some u1 := by simpa using hu1
      exact Option.some.inj (f1.symm.trans e)
    subst g1
    have g2 : w2 = u2 := by
      have e : t2.toArray[i]? = some u2 := by simpa using hu2
      exact Option.some.inj (f2.symm.trans e)
    subst g2
    refine ⟨_, rfl, wpAny_letOwnedTupleGo_zip (s := { s with heap := h', toks := tk }) z' ?_⟩
    intro hp z2 sb
    have hT2 := (sb.2 _ (Nat.ne_of_gt hzl)).trans hT
    have new : ObjOk X.prog X.w (upd H s.heap.objs.size (.tup [x1, x2])) hp s.heap.objs.size (.tup [x1, x2]) :=
      ⟨by show 2 ≤ sizeLine; decide, [w1, w2], .cons ru1 (.cons ru2 (.nil)), ⟨_, hT2, rfl, _, rfl⟩⟩
    have I1 : L2.Inv X pins σ (upd H s.heap.objs.size (.tup [x1, x2])) { s with heap := hp, toks := tk } :=
      I.turnedNew (t' := tk) (ch := [z, TI, TO, i1, i2]) (fun c o hb q => (sb.2 c (fun q' => hb (by simp [q']))).trans (hk c o (fun q' => hb (by simp [q'])) (fun q' => hb (by simp [q'])) (fun q' => hb (by simp [q'])) (fun q' => hb (by simp [q'])) q)) hf (Nat.le_refl _) new
    have ne : ∀ c ∈ [z, TI, TO, i1, i2], c < s.heap.objs.size := fun c hc => by
      simp only [List.mem_cons, List.not_mem_nil, or_false] at hc
      rcases hc with q | q | q | q | q
      · rw [q]; exact hzl
      · rw [q]; exact Heap.lt_size hTI
      · rw [q]; exact Heap.lt_size hTO
      · rw [q]; obtain ⟨_, e, _⟩ := h1.obj; exact Heap.lt_size e
      · rw [q]; obtain ⟨_, e, _⟩ := h2.obj; exact Heap.lt_size e
    refine ⟨.ref s.heap.objs.size, _, I1, rfl, ⟨_, x1, x2, rfl, I.hok.fresh (Nat.le_refl _), rfl, fun l hl => by rw [injK I hl q1]; exact e1, fun l hl => by rw [injK I hl q2]; exact e2⟩, ⟨z2, ?_, ⟨w1, w2, ?_⟩, ?_, ?_⟩, fun c hcm => ?_⟩
    · exact (sb.2 _ S.TIz).trans (hk _ _ S.TIz S.TITO S.TIi1 S.TIi2 hTI)
    · exact (sb.2 _ S.TOz).trans TO'
    · exact s1.1.at fun o q => (sb.2 _ (Ne.symm S.zi1)).trans q
    · exact s2.1.at fun o q => (sb.2 _ (Ne.symm S.zi2)).trans q
    · rw [upd_ne (Nat.ne_of_lt (ne c hcm))]
      exact (hf c hcm).1
  done := by
    intro X hP hw hK hc i pins s σ H E I hf st hg
    subst hP hw hK
    obtain ⟨hz, hTI, ⟨y1, y2, hTO⟩, h1, h2⟩ := st
    obtain ⟨xs1, xs2, q1, q2, b1, b2, he⟩ := hg
    obtain ⟨t1, r1, p1⟩ := hasK I q1
    have l1 : xs1.length = t1.toArray.size := by rw [r1.length]; simp
    rw [l1] at b1 he
    obtain ⟨t2, r2, p2⟩ := hasK I q2
    have l2 : xs2.length = t2.toArray.size := by rw [r2.length]; simp
    rw [l2] at b2 he
    have hh : X.A.in1.handled = none := I.ok.hd hc
    refine wpAny_pyNext_zipD2_end S (drawsK hh k1 i1 a1 n1 t1.toArray) (drawsK hh k2 i2 a2 n2 t2.toArray) hz hTI hTO ⟨h1, p1⟩ ⟨h2, p2⟩ b1 b2 he ?_
    intro h' tk hk
    exact ⟨rfl, I.turnedL (t' := tk) (ch := [z, TI, TO, i1, i2]) (fun c o hb q => hk c o (fun q' => hb (by simp [q'])) (fun q' => hb (by simp [q'])) (fun q' => hb (by simp [q'])) (fun q' => hb (by simp [q'])) q) hf⟩
  self := fun A i s Q E st h => wpAny_pyIter_zip st.1 h
theorem EvI.zip2 {X : Cx} {ρ ρ1 ρ2 : List Den} {pos : Pos} {k1 k2 : Bool} {ds1 ds2 : List PyData} {e1 e2 : Expr} {p tpos : Pos} {elts : List Expr} {kk : Nat} (hg : Gl X "zip") (hm : X.mg "zip" = none)
    (he1 : Ev X ρ e1 (seqD k1 ds1) ρ1)
    (he2 : Ev X ρ1 e2 (seqD k2 ds2) ρ2)
    (hs1 : starEach [e1, e2] X.env = (false, eval e1 X.env) :: starEach [e2] X.env := by rfl) (hs2 : starEach [e2] X.env = (false, eval e2 X.env) :: starEach [] X.env := by rfl)
    (hpl : (backTo pos (starEach [e2] X.env)).any (·.1) = false := by rfl) :
    EvI X ρ (.Tuple elts kk tpos) (.Call (.Name "zip" p) [e1, e2] [] pos) (List.zipWith (fun d e => PyData.tuple [d, e]) ds1 ds2) ρ2 := by
  obtain ⟨t1, ht1, g1⟩ := he1
  obtain ⟨t2, ht2, g2⟩ := he2
  have hpa : PA X [e1, e2] (tCons t1 (tCons t2 tNil)) := (pa_cons ht1 (pa_cons ht2 pa_nil hs2) hs1)
  refine ⟨fun σ H R => (tCons t1 (tCons t2 tNil)) σ H (fun vs Hn => ∃ (a1 a2 : Addr) (xs1 xs2 : List V), vs = [.ref a1, .ref a2] ∧ SqK X.K Hn k1 a1 xs1 ∧ SqK X.K Hn k2 a2 xs2 ∧ R (ItZ2 X.K k1 k2 a1 a2) Hn), ⟨?_⟩, ?_⟩
  · intro pins s σ H R I h
    refine Call_ (ld_blt I hg hm PyProof.Rows.boot_zip (PyProof.Rows.callWith_type1 (thn (hpa.run pos pins s σ H _ I h) ?_) hs1 hpl))
    rintro us s1 ⟨vs, H1, I1, r1, a1, a2, xs1, xs2, rfl, q1, q2, q⟩
    obtain ⟨c1, b1, p1⟩ := hasK I1 q1
    obtain ⟨c2, b2, p2⟩ := hasK I1 q2
    cases r1 with
    | cons z1 y1 =>
      cases y1 with
      | cons z2 y2 =>
        cases y2
        cases z1
        cases z2
        refine zip_begins2 (beginsK k1 a1 c1.toArray) (beginsK k2 a2 c2.toArray) p1 p2 fun h' hz hTI hTO g1 g2 hsz hk => wpAny_pyIter_zip hz ?_
        have I2 : L2.Inv X pins σ H1 { s1 with heap := h' } := I1.kept (t' := s1.toks) hk
        have S := sepZ2 s1.heap.objs.size a1 a2 p1.lt p2.lt
        refine ⟨s1.heap.objs.size + 4, [s1.heap.objs.size + 4, s1.heap.objs.size + 2, s1.heap.objs.size + 3, s1.heap.objs.size, s1.heap.objs.size + 1], _, _, H1, rfl, I2, turn_z2 (k1 := k1) S (ltNe 0 p1.lt) (ltNe 1 p2.lt), ⟨hz, hTI, ⟨_, _, hTO⟩, ItK.new g1, ItK.new g2⟩, fun c hcm => ?_, q⟩
        have hle : s1.heap.objs.size ≤ c := geOf5 hcm
        exact I1.fpOk hle (I1.hok.fresh hle)
  · intro σ G H R s h
    refine g1 σ G H _ s fun v1 G1 H1 n1 q1 => ?_
    refine g2 σ G1 H1 _ n1.st fun v2 G2 H2 n2 q2 => ?_
    obtain ⟨a1, xs1, rfl, sq1, da1⟩ := dpK (Dp_mono n2.stp.gsub _ _ q1)
    obtain ⟨a2, xs2, rfl, sq2, da2⟩ := dpK q2
    have sb := n2.st.sub
    refine ⟨a1, a2, xs1, xs2, rfl, sq1.mono sb, sq2.mono sb, h _ G2 H2 ((n1).trans n2) ?_⟩
    intro G' H' i s2 s3
    have m1 := (sq1.mono s2).mono s3
    have m2 := (sq2.mono s2).mono s3
    refine ⟨fun d hd => ?_, fun hd => ?_⟩
    · rw [List.getElem?_zipWith] at hd
      cases o1 : ds1[i]? with
      | none => rw [o1] at hd; cases hd
      | some d1 =>
        cases o2 : ds2[i]? with
        | none => rw [o1, o2] at hd; cases hd
        | some d2 =>
          rw [o1, o2] at hd
          cases hd
          obtain ⟨v1, e1, w1⟩ := da1.get o1
          obtain ⟨v2, e2, w2⟩ := da2.get o2
          refine ⟨⟨_, _, _, _, m1, m2, e1, e2⟩, fun x H2 hy => ?_⟩
          obtain ⟨T, y1, y2, rfl, hT, rfl, f1, f2⟩ := hy
          have z1 : y1 = v1 := Option.some.inj ((f1 _ m1).symm.trans e1)
          subst z1
          have z2 : y2 = v2 := Option.some.inj ((f2 _ m2).symm.trans e2)
          subst z2
          have st := Stp.laid (o := .tup [y1, y2]) s3 hT
          refine ⟨_, st, s3.laid, .tup (SqT.of upd_same) ?_⟩
          exact .cons (Dp_mono (s2.trans st.gsub) _ _ w1) (.cons (Dp_mono (s2.trans st.gsub) _ _ w2) (.nil))
    · simp only [List.length_zipWith, List.length_zip] at hd
      have L1 := da1.length
      have L2 := da2.length
      refine ⟨_, _, m1, m2, ?_, ?_, ?_⟩
      all_goals omega
/-! ### zip of 3 -/
def ItZ3 (K : PySem.W.Frag) (k1 k2 k3 : Bool) (a1 a2 a3 : Addr) : It :=
  ⟨fun i H => ∃ (xs1 xs2 xs3 : List V) (x1 x2 x3 : V), SqK K H k1 a1 xs1 ∧ SqK K H k2 a2 xs2 ∧ SqK K H k3 a3 xs3 ∧ xs1[i]? = some x1 ∧ xs2[i]? = some x2 ∧ xs3[i]? = some x3,
    fun i H v H' => ∃ (T : Addr) (x1 x2 x3 : V), v = .ref T ∧ H T = none ∧ H' = upd H T (.tup [x1, x2, x3]) ∧ (∀ l, SqK K H k1 a1 l → l[i]? = some x1) ∧ (∀ l, SqK K H k2 a2 l → l[i]? = some x2) ∧ (∀ l, SqK K H k3 a3 l → l[i]? = some x3),
    fun i H => ∃ xs1 xs2 xs3 : List V, SqK K H k1 a1 xs1 ∧ SqK K H k2 a2 xs2 ∧ SqK K H k3 a3 xs3 ∧ i ≤ xs1.length ∧ i ≤ xs2.length ∧ i ≤ xs3.length ∧ (i = xs1.length ∨ i = xs2.length ∨ i = xs3.length)⟩
theorem turn_z3 {P : Program} {w : World} {K : PySem.W.Frag} {elts : List Expr} {kk : Nat} {tpos : Pos} {k1 k2 k3 : Bool} {a1 a2 a3 z TI TO i1 i2 i3 : Addr} (S : ZipSep3 z TI TO i1 i2 i3 [i1, a1] [i2, a2] [i3, a3]) (n1 : a1 ≠ i1) (n2 : a2 ≠ i2) (n3 : a3 ≠ i3) :
    Turn P w K (.Tuple elts kk tpos) (ItZ3 K k1 k2 k3 a1 a2 a3) [z, TI, TO, i1, i2, i3] z (fun i h => IsZip h z TI TO .none ∧ IsTupOf3 h TI (.ref i1) (.ref i2) (.ref i3) ∧ (∃ x1 x2 x3, IsTupOf3 h TO x1 x2 x3) ∧ ItK h k1 i1 a1 i ∧ ItK h k2 i2 a2 i ∧ ItK h k3 i3 a3 i) where
  mem := by simp
  obj := fun i h st c hc => by
    obtain ⟨hz, hTI, ⟨y1, y2, y3, hTO⟩, h1, h2, h3⟩ := st
    simp only [List.mem_cons, List.not_mem_nil, or_false] at hc
    rcases hc with q | q | q | q | q | q
    · rw [q]; exact ⟨_, hz, fun v q => nomatch q⟩
    · rw [q]; exact ⟨_, hTI, fun v q => nomatch q⟩
    · rw [q]; exact ⟨_, hTO, fun v q => nomatch q⟩
    · rw [q]; exact h1.obj
    · rw [q]; exact h2.obj
    · rw [q]; exact h3.obj
  keep := fun i h h' st k => by
    obtain ⟨hz, hTI, ⟨y1, y2, y3, hTO⟩, h1, h2, h3⟩ := st
    exact ⟨k z (by simp) _ hz, k TI (by simp) _ hTI, ⟨y1, y2, y3, k TO (by simp) _ hTO⟩, h1.at fun o q => k i1 (by simp) o q, h2.at fun o q => k i2 (by simp) o q, h3.at fun o q => k i3 (by simp) o q⟩
  item := by
    intro X hP hw hK hc i pins s σ H E I hf st hg
    subst hP hw hK
    obtain ⟨hz, hTI, ⟨y1, y2, y3, hTO⟩, h1, h2, h3⟩ := st
    obtain ⟨xs1, xs2, xs3, x1, x2, x3, q1, q2, q3, e1, e2, e3⟩ := hg
    obtain ⟨t1, r1, p1⟩ := hasK I q1
    obtain ⟨u1, hu1, ru1⟩ := r1.get e1
    have l1 : i < t1.toArray.size := by
      have := (List.getElem?_eq_some_iff.mp hu1).1
      simpa using this
    obtain ⟨t2, r2, p2⟩ := hasK I q2
    obtain ⟨u2, hu2, ru2⟩ := r2.get e2
    have l2 : i < t2.toArray.size := by
      have := (List.getElem?_eq_some_iff.mp hu2).1
      simpa using this
    obtain ⟨t3, r3, p3⟩ := hasK I q3
    obtain ⟨u3, hu3, ru3⟩ := r3.get e3
    have l3 : i < t3.toArray.size := by
      have := (List.getElem?_eq_some_iff.mp hu3).1
      simpa using this
    have hh : X.A.in1.handled = none := I.ok.hd hc
    have hzl := Heap.lt_size hz
    refine wpAny_pyNext_zipD3_item S (drawsK hh k1 i1 a1 n1 t1.toArray) (drawsK hh k2 i2 a2 n2 t2.toArray) (drawsK hh k3 i3 a3 n3 t3.toArray) hz hTI hTO ⟨h1, p1⟩ ⟨h2, p2⟩ ⟨h3, p3⟩ l1 l2 l3 ?_
    intro w1 w2 w3 h' tk f1 f2 f3 z' TO' s1 s2 s3 hT hsz hk
    have g1 : w1 = u1 := by
      have e : t1.toArray[i]? = some u1 := by simpa using hu1
      exact Option.some.inj (f1.symm.trans e)
    subst g1
    have g2 : w2 = u2 := by
      have e : t2.toArray[i]? = some u2 := by simpa using hu2
      exact Option.some.inj (f2.symm.trans e)
    subst g2
    have g3 : w3 = u3 := by
      have e : t3.toArray[i]? = some u3 := by simpa using hu3
      exact Option.some.inj (f3.symm.trans e)
    subst g3
    refine ⟨_, rfl, wpAny_letOwnedTupleGo_zip (s := { s with heap := h', toks := tk }) z' ?_⟩
    intro hp z2 sb
    have hT2 := (sb.2 _ (Nat.ne_of_gt hzl)).trans hT
    have new : ObjOk X.prog X.w (upd H s.heap.objs.size (.tup [x1, x2, x3])) hp s.heap.objs.size (.tup [x1, x2, x3]) :=
      ⟨by show 3 ≤ sizeLine; decide, [w1, w2, w3], .cons ru1 (.cons ru2 (.cons ru3 (.nil))), ⟨_, hT2, rfl, _, rfl⟩⟩
    have I1 : L2.Inv X pins σ (upd H s.heap.objs.size (.tup [x1, x2, x3])) { s with heap := hp, toks := tk } :=
      I.turnedNew (t' := tk) (ch := [z, TI, TO, i1, i2, i3]) (fun c o hb q => (sb.2 c (fun q' => hb (by simp [q']))).trans (hk c o (fun q' => hb (by simp [q'])) (fun q' => hb (by simp [q'])) (fun q' => hb (by simp [q'])) (fun q' => hb (by simp [q'])) (fun q' => hb (by simp [q'])) q)) hf (Nat.le_refl _) new
    have ne : ∀ c ∈ [z, TI, TO, i1, i2, i3], c < s.heap.objs.size := fun c hc => by
      simp only [List.mem_cons, List.not_mem_nil, or_false] at hc
      rcases hc with q | q | q | q | q | q
      · rw [q]; exact hzl
      · rw [q]; exact Heap.lt_size hTI
      · rw [q]; exact Heap.lt_size hTO
      · rw [q]; obtain ⟨_, e, _⟩ := h1.obj; exact Heap.lt_size e
      · rw [q]; obtain ⟨_, e, _⟩ := h2.obj; exact Heap.lt_size e
      · rw [q]; obtain ⟨_, e, _⟩ := h3.obj; exact Heap.lt_size e
    refine ⟨.ref s.heap.objs.size, _, I1, rfl, ⟨_, x1, x2, x3, rfl, I.hok.fresh (Nat.le_refl _), rfl, fun l hl => by rw [injK I hl q1]; exact e1, fun l hl => by rw [injK I hl q2]; exact e2, fun l hl => by rw [injK I hl q3]; exact e3⟩, ⟨z2, ?_, ⟨w1, w2, w3, ?_⟩, ?_, ?_, ?_⟩, fun c hcm => ?_⟩
    · exact (sb.2 _ S.TIz).trans (hk _ _ S.TIz S.TITO S.TIi1 S.TIi2 S.TIi3 hTI)
    · exact (sb.2 _ S.TOz).trans TO'
    · exact s1.1.at fun o q => (sb.2 _ (Ne.symm S.zi1)).trans q
    · exact s2.1.at fun o q => (sb.2 _ (Ne.symm S.zi2)).trans q
    · exact s3.1.at fun o q => (sb.2 _ (Ne.symm S.zi3)).trans q
    · rw [upd_ne (Nat.ne_of_lt (ne c hcm))]
      exact (hf c hcm).1
  done := by
    intro X hP hw hK hc i pins s σ H E I hf st hg
    subst hP hw hK
    obtain ⟨hz, hTI, ⟨y1, y2, y3, hTO⟩, h1, h2, h3⟩ := st
    obtain ⟨xs1, xs2, xs3, q1, q2, q3, b1, b2, b3, he⟩ := hg
    obtain ⟨t1, r1, p1⟩ := hasK I q1
    have l1 : xs1.length = t1.toArray.size := by rw [r1.length]; simp
    rw [l1] at b1 he
    obtain ⟨t2, r2, p2⟩ := hasK I q2
    have l2 : xs2.length = t2.toArray.size := by rw [r2.length]; simp
    rw [l2] at b2 he
    obtain ⟨t3, r3, p3⟩ := hasK I q3
    have l3 : xs3.length = t3.toArray.size := by rw [r3.length]; simp
    rw [l3] at b3 he
    have hh : X.A.in1.handled = none := I.ok.hd hc
    refine wpAny_pyNext_zipD3_end S (drawsK hh k1 i1 a1 n1 t1.toArray) (drawsK hh k2 i2 a2 n2 t2.toArray) (drawsK hh k3 i3 a3 n3 t3.toArray) hz hTI hTO ⟨h1, p1⟩ ⟨h2, p2⟩ ⟨h3, p3⟩ b1 b2 b3 he ?_
    intro h' tk hk
    exact ⟨rfl, I.turnedL (t' := tk) (ch := [z, TI, TO, i1, i2, i3]) (fun c o hb q => hk c o (fun q' => hb (by simp [q'])) (fun q' => hb (by simp [q'])) (fun q' => hb (by simp [q'])) (fun q' => hb (by simp [q'])) (fun q' => hb (by simp [q'])) q) hf⟩
  self := fun A i s Q E st h => wpAny_pyIter_zip st.1 h
theorem EvI.zip3 {X : Cx} {ρ ρ1 ρ2 ρ3 : List Den} {pos : Pos} {k1 k2 k3 : Bool} {ds1 ds2 ds3 : List PyData} {e1 e2 e3 : Expr} {p tpos : Pos} {elts : List Expr} {kk : Nat} (hg : Gl X "zip") (hm : X.mg "zip" = none)
    (he1 : Ev X ρ e1 (seqD k1 ds1) ρ1)
    (he2 : Ev X ρ1 e2 (seqD k2 ds2) ρ2)
    (he3 : Ev X ρ2 e3 (seqD k3 ds3) ρ3)
    (hs1 : starEach [e1, e2, e3] X.env = (false, eval e1 X.env) :: starEach [e2, e3] X.env := by rfl) (hs2 : starEach [e2, e3] X.env = (false, eval e2 X.env) :: starEach [e3] X.env := by rfl) (hs3 : starEach [e3] X.env = (false, eval e3 X.env) :: starEach [] X.env := by rfl)
    (hpl : (backTo pos (starEach [e2, e3] X.env)).any (·.1) = false := by rfl) :
    EvI X ρ (.Tuple elts kk tpos) (.Call (.Name "zip" p) [e1, e2, e3] [] pos) (List.zipWith (fun (d : PyData) (p : PyData × PyData) => PyData.tuple [d, p.1, p.2]) ds1 (ds2.zip ds3)) ρ3 := by
  obtain ⟨t1, ht1, g1⟩ := he1
  obtain ⟨t2, ht2, g2⟩ := he2
  obtain ⟨t3, ht3, g3⟩ := he3
  have hpa : PA X [e1, e2, e3] (tCons t1 (tCons t2 (tCons t3 tNil))) := (pa_cons ht1 (pa_cons ht2 (pa_cons ht3 pa_nil hs3) hs2) hs1)
  refine ⟨fun σ H R => (tCons t1 (tCons t2 (tCons t3 tNil))) σ H (fun vs Hn => ∃ (a1 a2 a3 : Addr) (xs1 xs2 xs3 : List V), vs = [.ref a1, .ref a2, .ref a3] ∧ SqK X.K Hn k1 a1 xs1 ∧ SqK X.K Hn k2 a2 xs2 ∧ SqK X.K Hn k3 a3 xs3 ∧ R (ItZ3 X.K k1 k2 k3 a1 a2 a3) Hn), ⟨?_⟩, ?_⟩
  · intro pins s σ H R I h
    refine Call_ (ld_blt I hg hm PyProof.Rows.boot_zip (PyProof.Rows.callWith_type1 (thn (hpa.run pos pins s σ H _ I h) ?_) hs1 hpl))
    rintro us s1 ⟨vs, H1, I1, r1, a1, a2, a3, xs1, xs2, xs3, rfl, q1, q2, q3, q⟩
    obtain ⟨c1, b1, p1⟩ := hasK I1 q1
    obtain ⟨c2, b2, p2⟩ := hasK I1 q2
    obtain ⟨c3, b3, p3⟩ := hasK I1 q3
    cases r1 with
    | cons z1 y1 =>
      cases y1 with
      | cons z2 y2 =>
        cases y2 with
        | cons z3 y3 =>
          cases y3
          cases z1
          cases z2
          cases z3
          refine zip_begins3 (beginsK k1 a1 c1.toArray) (beginsK k2 a2 c2.toArray) (beginsK k3 a3 c3.toArray) p1 p2 p3 fun h' hz hTI hTO g1 g2 g3 hsz hk => wpAny_pyIter_zip hz ?_
          have I2 : L2.Inv X pins σ H1 { s1 with heap := h' } := I1.kept (t' := s1.toks) hk
          have S := sepZ3 s1.heap.objs.size a1 a2 a3 p1.lt p2.lt p3.lt
          refine ⟨s1.heap.objs.size + 5, [s1.heap.objs.size + 5, s1.heap.objs.size + 3, s1.heap.objs.size + 4, s1.heap.objs.size, s1.heap.objs.size + 1, s1.heap.objs.size + 2], _, _, H1, rfl, I2, turn_z3 (k1 := k1) S (ltNe 0 p1.lt) (ltNe 1 p2.lt) (ltNe 2 p3.lt), ⟨hz, hTI, ⟨_, _, _, hTO⟩, ItK.new g1, ItK.new g2, ItK.new g3⟩, fun c hcm => ?_, q⟩
          have hle : s1.heap.objs.size ≤ c := geOf6 hcm
          exact I1.fpOk hle (I1.hok.fresh hle)
  · intro σ G H R s h
    refine g1 σ G H _ s fun v1 G1 H1 n1 q1 => ?_
    refine g2 σ G1 H1 _ n1.st fun v2 G2 H2 n2 q2 => ?_
    refine g3 σ G2 H2 _ n2.st fun v3 G3 H3 n3 q3 => ?_
    obtain ⟨a1, xs1, rfl, sq1, da1⟩ := dpK (Dp_mono n3.stp.gsub _ _ (Dp_mono n2.stp.gsub _ _ q1))
    obtain ⟨a2, xs2, rfl, sq2, da2⟩ := dpK (Dp_mono n3.stp.gsub _ _ q2)
    obtain ⟨a3, xs3, rfl, sq3, da3⟩ := dpK q3
    have sb := n3.st.sub
    refine ⟨a1, a2, a3, xs1, xs2, xs3, rfl, sq1.mono sb, sq2.mono sb, sq3.mono sb, h _ G3 H3 (((n1).trans n2).trans n3) ?_⟩
    intro G' H' i s2 s3
    have m1 := (sq1.mono s2).mono s3
    have m2 := (sq2.mono s2).mono s3
    have m3 := (sq3.mono s2).mono s3
    refine ⟨fun d hd => ?_, fun hd => ?_⟩
    · rw [List.getElem?_zipWith] at hd
      cases o1 : ds1[i]? with
      | none => rw [o1] at hd; cases hd
      | some d1 =>
        rw [o1] at hd
        cases o4 : (ds2.zip ds3)[i]? with
        | none => rw [o4] at hd; cases hd
        | some p =>
          rw [o4] at hd
          cases hd
          obtain ⟨o2, o3⟩ := List.getElem?_zip_eq_some.mp o4
          obtain ⟨v1, e1, w1⟩ := da1.get o1
          obtain ⟨v2, e2, w2⟩ := da2.get o2
          obtain ⟨v3, e3, w3⟩ := da3.get o3
          refine ⟨⟨_, _, _, _, _, _, m1, m2, m3, e1, e2, e3⟩, fun x H2 hy => ?_⟩
          obtain ⟨T, y1, y2, y3, rfl, hT, rfl, f1, f2, f3⟩ := hy
          have z1 : y1 = v1 := Option.some.inj ((f1 _ m1).symm.trans e1)
          subst z1
          have z2 : y2 = v2 := Option.some.inj ((f2 _ m2).symm.trans e2)
          subst z2
          have z3 : y3 = v3 := Option.some.inj ((f3 _ m3).symm.trans e3)
          subst z3
          have st := Stp.laid (o := .tup [y1, y2, y3]) s3 hT
          refine ⟨_, st, s3.laid, .tup (SqT.of upd_same) ?_⟩
          exact .cons (Dp_mono (s2.trans st.gsub) _ _ w1) (.cons (Dp_mono (s2.trans st.gsub) _ _ w2) (.cons (Dp_mono (s2.trans st.gsub) _ _ w3) (.nil)))
    · simp only [List.length_zipWith, List.length_zip] at hd
      have L1 := da1.length
      have L2 := da2.length
      have L3 := da3.length
      refine ⟨_, _, _, m1, m2, m3, ?_, ?_, ?_, ?_⟩
      all_goals omega
end DL

set_option maxHeartbeats 4000000
/-! DLP: what the layer lacked: powers of great numbers, tuples repeated 0 or 1 times, counting truths. -/
namespace DL
open PySem PySem.Spec PyProof.Rows L2
def CPowW (i j : Int) : Prop := 0 ≤ j ∧ (Builtin.Int.intBits i : Int) * j ≤ 2 ^ 27
section
variable {X : Cx} {ρ ρ' ρ1 ρ2 : List Den} {pos : Pos} {K : PySem.W.Frag}
theorem op_powW : OpR X (binaryOp .Pow) (rI CPowW fun i j => .int (i ^ j.toNat)) := opI fun _ _ _ _ _ _ _ hc q => pow_int hc.1 hc.2 q
theorem Ev.powW {a b : Expr} {i j : Int} (ha : Ev X ρ a (.int i) ρ1) (hb : Ev X ρ1 b (.int j) ρ2) (h : CPowW i j) : Ev X ρ (.BinOp a .Pow b pos) (.int (i ^ j.toNat)) ρ2 := .bin op_powW (pr_I (g := fun i j => i ^ j.toNat) h) ha hb
/-! ### a tuple repeated -/
theorem tuple_mul_same (l : Addr) (items : Array Value) (n : Nat) (dd : Option Addr) (sl : Array (Option Value)) (x : Int) (u : Tok) (c0 : (decide (x < -(2 ^ 63)) || decide (x ≥ 2 ^ 63)) = false) (c1 : (items.isEmpty || x == 1) = true) :
    Meets (Builtin.«tuple.__mul__» ⟨[.ref l, .int x u], []⟩) (fun _ R s => s.heap.get? l = some { cls := .type "tuple", dict := dd, data := .seq items n, slots := sl } ∧ R (.ok (.ret (Value.ref l))) s) :=
  .of_wp fun prog w A R s h => by
    obtain ⟨hp, g, d, tk, os⟩ := s
    obtain ⟨hl, h⟩ := h
    have f1 := AutoSeq1.idx_int
    wp_walk using wpAny_loadPart' hl
    repeat (first
      | (refine wpAny_ite_false (decide_eq_false (by rw [c0]; exact Bool.false_ne_true)) ?_; wp_walk using wpAny_loadPart' hl)
      | (refine wpAny_ite_true (decide_eq_true (by rw [c1])) ?_; wp_walk using wpAny_loadPart' hl))
    exact ⟨_, rfl, h⟩
theorem tuple_mul_none (l : Addr) (items : Array Value) (n : Nat) (dd : Option Addr) (sl : Array (Option Value)) (x : Int) (u : Tok) (c0 : (decide (x < -(2 ^ 63)) || decide (x ≥ 2 ^ 63)) = false) (c1 : (items.isEmpty || x == 1) = false) (c2 : (decide (x ≤ 0) || items.isEmpty) = true) :
    Meets (Builtin.«tuple.__mul__» ⟨[.ref l, .int x u], []⟩) (fun _ R s => s.heap.get? l = some { cls := .type "tuple", dict := dd, data := .seq items n, slots := sl } ∧
      R (.ok (.ret (Value.ref s.heap.objs.size))) { s with heap := s.heap.push { cls := Value.type "tuple", data := Data.seq #[] }, toks := s.toks }) :=
  .of_wp fun prog w A R s h => by
    obtain ⟨hp, g, d, tk, os⟩ := s
    obtain ⟨hl, h⟩ := h
    have f1 := AutoSeq1.idx_int
    wp_walk using wpAny_loadPart' hl
    repeat (first
      | (refine wpAny_ite_false (decide_eq_false (by rw [c0]; exact Bool.false_ne_true)) ?_; wp_walk using wpAny_loadPart' hl)
      | (refine wpAny_ite_false (decide_eq_false (by rw [c1]; exact Bool.false_ne_true)) ?_; wp_walk using wpAny_loadPart' hl)
      | (refine wpAny_ite_true (decide_eq_true (by rw [c2])) ?_; wp_walk using wpAny_loadPart' hl))
    exact ⟨_, rfl, h⟩
def rRepA (K : PySem.W.Frag) : R2 := fun x y H Q => ∃ l k xs, x = .ref l ∧ y = .int k ∧ SqT K H l xs ∧ -1000 ≤ k ∧ k ≤ 1000 ∧ xs.length ≤ 1000 ∧
  ((xs = [] ∨ k = 1) → Q (.ref l) H) ∧ (xs ≠ [] → k ≠ 1 → ∀ p, H p = none → Q (.ref p) (upd H p (.tup (List.replicate k.toNat xs).flatten)))
theorem op_repA : OpR X (binaryOp .Mult) (rRepA X.K) := by
  intro pins s σ H x y v u Q I rx ry h
  obtain ⟨l, k, xs, rfl, rfl, hT, hk1, hk2, hz, q1, q2⟩ := h
  by_cases h2 : xs ≠ [] ∧ 2 ≤ k
  · exact op_repT pins s σ H _ _ v u Q I rx ry ⟨l, k, xs, rfl, rfl, hT, h2.1, h2.2, hk2, hz, q2 h2.1 (by omega)⟩
  cases rx
  obtain ⟨t, rfl⟩ := ry
  obtain ⟨its, r, ⟨⟨cls, dd, data, sl⟩, ho, hc, n, hd⟩, hs⟩ := I.tuple hT
  simp only at hc hd
  subst hc hd
  have c0 : (decide (k < -(2 ^ 63)) || decide (k ≥ 2 ^ 63)) = false := by
    rw [decide_eq_false (by omega), decide_eq_false (by omega)] <;> rfl
  have hie : its.toArray.isEmpty = xs.isEmpty := by
    cases r <;> simp
  by_cases h1 : xs = [] ∨ k = 1
  · have c1 : (its.toArray.isEmpty || k == 1) = true := by
      rw [hie]
      rcases h1 with e | e
      · rw [e]; rfl
      · rw [e]; simp
    refine wpAny_binaryOp_repeat_ref (T := "tuple") (U := "int") (by decide) ⟨_, ho, rfl⟩ (fun s' => typeIs_int s' k t) noFill_tuple_mul F.fills_int_mul F.slot_int_rmul repeat_tuple F.slot_int_index.lookup
      (call_meets F.slot_int_rmul (typeIs_int s k t) F.entry_int_rmul (F.args_int_rmul_2 _ _) (int_rmul_tuple k t l its.toArray n dd sl)
        ⟨ho, rfl, ⟨_, ho, rfl⟩, call_meets F.slot_tuple_mul ⟨_, ho, rfl⟩ F.entry_tuple_mul (F.args_tuple_mul_2 _ _) (tuple_mul_same l its.toArray n dd sl k t c0 c1) ⟨ho, ?_⟩⟩)
    exact ⟨.ref l, H, I, rfl, q1 h1⟩
  · have hne : xs ≠ [] := fun e => h1 (.inl e)
    have hk : k ≠ 1 := fun e => h1 (.inr e)
    have hle : k ≤ 0 := by
      have : ¬ 2 ≤ k := fun z => h2 ⟨hne, z⟩
      omega
    have c1 : (its.toArray.isEmpty || k == 1) = false := by
      rw [hie]
      have : xs.isEmpty = false := by cases xs with
        | nil => exact absurd rfl hne
        | cons a b => rfl
      rw [this, Bool.false_or]
      exact beq_eq_false_iff_ne.mpr hk
    have c2 : (decide (k ≤ 0) || its.toArray.isEmpty) = true := by rw [decide_eq_true hle]; rfl
    refine wpAny_binaryOp_repeat_ref (T := "tuple") (U := "int") (by decide) ⟨_, ho, rfl⟩ (fun s' => typeIs_int s' k t) noFill_tuple_mul F.fills_int_mul F.slot_int_rmul repeat_tuple F.slot_int_index.lookup
      (call_meets F.slot_int_rmul (typeIs_int s k t) F.entry_int_rmul (F.args_int_rmul_2 _ _) (int_rmul_tuple k t l its.toArray n dd sl)
        ⟨ho, rfl, ⟨_, ho, rfl⟩, call_meets F.slot_tuple_mul ⟨_, ho, rfl⟩ F.entry_tuple_mul (F.args_tuple_mul_2 _ _) (tuple_mul_none l its.toArray n dd sl k t c0 c1 c2) ⟨ho, ?_⟩⟩)
    have ek : (List.replicate k.toNat xs).flatten = [] := by
      have : k.toNat = 0 := by omega
      rw [this]; rfl
    have q := q2 hne hk _ I.fresh
    rw [ek] at q
    refine ⟨.ref s.heap.objs.size, _, I.laid (t' := s.toks) (o := .tup []) (fun b ob q => Heap.get?_push_of_some _ q) (Nat.le_refl _) ?_, rfl, q⟩
    exact ⟨Nat.zero_le _, _, .nil, IsTup.new _ _⟩
theorem pr_repA {ds : List PyData} {k : Int} (h1 : -1000 ≤ k) (h2 : k ≤ 1000) (hz : ds.length ≤ 1000) : PR2 K (rRepA K) (.tuple ds) (.int k) (.tuple (List.replicate k.toNat ds).flatten) := by
  intro G H v1 v2 Q s q1 q2 q
  cases q1 with
  | tup hq ha =>
    rename_i _ vs
    cases q2
    refine ⟨_, k, _, rfl, rfl, SqT_mono s hq, h1, h2, by rw [ha.length]; exact hz, fun e => ?_, fun _ _ p hp => ?_⟩
    · refine q _ G H .refl s (.tup hq ?_)
      rcases e with e | e
      · subst e
        cases ha
        have : (List.replicate k.toNat ([] : List PyData)).flatten = [] := by simp
        rw [this]
        exact .nil
      · subst e
        have : (List.replicate (1 : Int).toNat ds).flatten = ds := by
          show (List.replicate 1 ds).flatten = ds
          simp [List.replicate]
        rw [this]
        exact ha
    · have st := Stp.laid (o := .tup (List.replicate k.toNat vs).flatten) s hp
      exact q _ _ _ st s.laid (.tup (SqT.of upd_same) (DpAll_mono st.gsub _ _ (ha.flatrep k.toNat)))
theorem Ev.repT {a b : Expr} {ds : List PyData} {k : Int} (ha : Ev X ρ a (.tuple ds) ρ1) (hb : Ev X ρ1 b (.int k) ρ2) (h1 : -1000 ≤ k) (h2 : k ≤ 1000) (hz : ds.length ≤ 1000) : Ev X ρ (.BinOp a .Mult b pos) (.tuple (List.replicate k.toNat ds).flatten) ρ2 := .bin op_repA (pr_repA h1 h2 hz) ha hb

/-! ### lists joined, repeated, turned round -/
def rCatS (K : PySem.W.Frag) : R2 := fun x y H Q => ∃ l b xs zs, x = .ref l ∧ y = .ref b ∧ SqL K H l xs ∧ SqL K H b zs ∧ xs.length + zs.length ≤ sizeLine ∧ ∀ p, H p = none → Q (.ref p) (upd H p (.lst (xs ++ zs)))
theorem op_catS : OpR X (binaryOp .Add) (rCatS X.K) := by
  intro pins s σ H x y v u Q I rx ry h
  obtain ⟨l, b, xs, zs, rfl, rfl, hL, hB, hz, q⟩ := h
  cases rx
  cases ry
  obtain ⟨its, r, ⟨⟨cls, dd, data, sl⟩, n, ho, hc, hdn, hd⟩, _⟩ := I.list hL
  obtain ⟨its2, r2, ⟨⟨cls2, dd2, data2, sl2⟩, n2, ho2, hc2, hdn2, hd2⟩, _⟩ := I.list hB
  simp only at hc hd hdn hc2 hd2 hdn2
  subst hc hd hdn hc2 hd2 hdn2
  have e : its.toArray ++ its2.toArray = (its ++ its2).toArray := by simp
  have hl := r.length
  have hl2 := r2.length
  refine concat_meets ⟨_, ho, rfl⟩ ⟨_, ho2, rfl⟩ noFill_list_add seq_list_add PySem.F.slot_list_add PySem.F.entry_list_add (PySem.F.args_list_add_2 _ _) (list_addW l b its.toArray its2.toArray n n2 none none sl sl2 (by simp; omega)) ⟨ho, ho2, ?_⟩
  rw [e]
  exact ⟨.ref _, _, I.lnew (t' := s.toks) (r.append r2) (by rw [List.length_append]; omega), rfl, q _ I.fresh⟩
theorem EvO.cat {a b : Expr} {ds es : List PyData} (ha : Ev X ρ a (.list ds) ρ1) (hb : Ev X ρ1 b (.list es) ρ2) (hz : ds.length + es.length ≤ sizeLine) : EvO X ρ (.BinOp a .Add b pos) (ds ++ es) ρ2 := by
  refine .bin op_catS (fun G H v1 v2 Q s q1 q2 q => ?_) ha hb
  cases q1 with
  | lst h1 a1 =>
    cases q2 with
    | lst h2 a2 => exact ⟨_, _, _, _, rfl, rfl, s.seq h1, s.seq h2, by rw [a1.length, a2.length]; exact hz, q _ (a1.append a2)⟩
theorem EvO.rep {a b : Expr} {ds : List PyData} {k : Int} (ha : EvO X ρ a ds ρ1) (hb : Ev X ρ1 b (.int k) ρ2) (h1 : -(2 ^ 63) ≤ k) (h2 : k < 2 ^ 63) (hz : ds.length * k.toNat ≤ sizeLine) : EvO X ρ (.BinOp a .Mult b pos) (List.replicate k.toNat ds).flatten ρ2 := by
  obtain ⟨t, ht, g1⟩ := ha
  obtain ⟨u, hu, g2⟩ := hb
  refine ⟨_, pe_op op_rep ht hu, fun σ G H Q s h => ?_⟩
  refine g1 σ G H _ s fun p vs G1 H1 n1 hp hg ho hH hd => ?_
  refine g2 σ G1 H1 _ n1.st fun w G2 H2 n2 q2 => ?_
  cases q2
  refine ⟨p, k, vs, rfl, rfl, n2.stp.kept p _ hH ho, h1, h2, by rw [hd.length]; exact hz, ?_⟩
  exact EvO.of_laid (n1.trans n2) ((DpAll_mono n2.stp.gsub _ _ hd).flatrep k.toNat) h
/-- xs[::-1] -/
theorem EvO.rev {e : Expr} {ds : List PyData} {k : Nat} {p1 p2 p3 : Pos} (he : Ev X ρ e (.list ds) ρ1) : EvO X ρ (.Subscript e (.Slice none none (some (.UnaryOp .USub (.Constant (.int 1) k p1) p2)) p3) pos) ds.reverse ρ1 := by
  obtain ⟨t, ht, g1⟩ := he
  refine ⟨_, pe_revL ht, fun σ G H Q s h => ?_⟩
  refine g1 σ G H _ s fun v G1 H1 n1 q1 => ?_
  cases q1 with
  | lst hq ha => exact ⟨_, _, rfl, n1.st.sub.seq hq, EvO.of_laid n1 ha.reverse h⟩

/-! ### counting truths -/
def isBl (k : Bool) (v : Value) : Bool := v == .bool k
theorem mt_countB : MtR X "list.count" (fun x xs H Q => ∃ (p : Addr) (bs : List Bool) (k : Bool), x = .ref p ∧ xs = [.bl k] ∧ SqL X.K H p (bs.map V.bl) ∧ Q (.int (bs.count k : Nat)) H) := by
  intro pins s σ H x xs v us Q I rx rxs h
  obtain ⟨p, bs, k, rfl, rfl, hs, q⟩ := h
  cases rx
  obtain ⟨u, rfl, ru⟩ := rxs.one
  cases ru
  obtain ⟨its, rv, ⟨⟨cls, dd, data, sl⟩, n, ho, hc, hdn, hd⟩, hlen⟩ := I.list hs
  simp only at hc hd
  subst hc hd
  have hb := Vals.bls rv
  subst hb
  refine call_meets PySem.F.slot_list_count ⟨_, ho, rfl⟩ PySem.F.entry_list_count (PySem.F.args_list_count_2 _ _)
    (SeqAt.list_countAt p (bs.map Value.bool).toArray n dd sl (.bool k) (isBl k)) ⟨ho, fun y hy => ?_, ?_⟩
  · have hy' : y ∈ bs.map Value.bool := List.mem_toArray.mp hy
    obtain ⟨b, _, rfl⟩ := List.mem_map.mp hy'
    have e : isBl k (.bool b) = eqV (.bl b) (.bl k) := by cases b <;> cases k <;> rfl
    rw [e]
    exact eqAt_V rfl rfl rfl rfl
  · have ec : ((bs.map Value.bool).toArray.toList.countP (isBl k)) = bs.count k := by
      show (bs.map Value.bool).countP (isBl k) = bs.count k
      rw [List.countP_map]
      unfold List.count
      congr 1
      funext b
      show isBl k (.bool b) = (b == k)
      cases b <;> cases k <;> rfl
    refine ⟨.int (bs.count k : Nat), H, I.tok _, ⟨s.toks, ?_⟩, q⟩
    rw [ec]
end
end DL

set_option maxHeartbeats 2000000
/-! DLX: own errors whose class stands below an own class, whose __init__ calls super().__init__ with a text and keeps one field. -/
namespace PySem
namespace DLX
open PySem.W PySem.Calls PyProof.Rows PySem.HandSPX
def xA (f : Str) (p1 p2 : Pos) : Arguments := { posonlyargs := [], args := [{ arg := "self", annotation := none, pos := p1 }, { arg := f, annotation := none, pos := p2 }], vararg := none, kwonlyargs := [], kw_defaults := [], kwarg := none, defaults := [] }
def xB (f t : Str) (q1 q2 q3 q4 q5 q6 q7 q8 q9 q10 : Pos) : List Stmt :=
  [.Expr (.Call (.Attribute (.Call (.Name "super" q1) [] [] q2) "__init__" q3) [.Constant (.str t) 0 q4] [] q5) q6,
   .Assign [.Attribute (.Name "self" q7) f q8] (.Name f q9) q10]
def xS (f : Str) : Scope := { kind := .function, names := [(PySem.Str.ofString "self", .local), (f, .local), (PySem.Str.ofString "__class__", .free), (PySem.Str.ofString "super", .globalImplicit)], isGenerator := false, isCoroutine := false, more := [] }
/-- what the names need -/
structure NmOk (f : Str) : Prop where
  n1 : (xS f).names.lookup ("super" : Str) = some .globalImplicit
  n2 : (xS f).names.lookup ("__class__" : Str) = some .free
  n3 : (xS f).names.lookup ("self" : Str) = some .local
  n4 : (xS f).names.lookup f = some .local
  n5 : (("self" : Str) == f) = false
  n6 : (f == ("__debug__" : Str)) = false
  nb : ∀ (q : Str) (p1 p2 : Pos) (bd : List Stmt) (doc pm : Value) (an : Option Addr) (cdv ct : Value) (cc : Addr) (x v : Value), bindArgs (ksFn "__init__" q (xA f p1 p2) bd (xS f) .none .none doc pm an cdv ct cc) ⟨[x, v], []⟩ = pure [(("self" : Str), x), (f, v)]
/-- what the written part says of the class at C, and of its __init__, at fI -/
structure ErrTxt (prog : Program) (K : Frag) (mg : Str → Option Value) (name f : Str) (C fI : Addr) : Prop where
  gC : mg name = some (.ref C)
  cls : ∃ nm q N bs bm sn sub ab col dd k0 k1 k2 k3 k5, K.lookup C = some (excClassObj nm q C N bs bm true sn sub ab col dd k0 k1 k2 k3 k5 "ValueError.__new__") ∧ refsVE bm = true
  sa : findIn K (.ref C) "__setattr__" = some (some (.builtin "object.__setattr__"))
  ga : findIn K (.ref C) "__getattribute__" = some (some (.builtin "BaseException.__getattribute__"))
  gg : findIn K (.ref C) "__getattr__" = some none
  noN : findIn K (.ref C) f = some none
  iC : findIn K (.ref C) "__init__" = some (some (.ref fI))
  tC : typeIn K (.ref fI) = some (.type "function")
  kC : keepIn K (.ref C) = true
  exC : subIn K (.ref C) (.type "BaseException") = some true
  tyC : typeIn K (.ref C) = some (.type "type")
  hdC : hasDictIn K C = true
  nm : NmOk f
  noS : mg "super" = none
  op : nsIn K cStatics "thirdparty.any" = some none
  supI : ks_superIn K C C "__init__" = some (some (.builtin "ValueError.__init__"))
  subVE : subIn K (.ref C) (.type "ValueError") = some true
  selfC : mroIn K C (.ref C) = some true
  htop : (prog.main.scope.names.lookup ("super" : Str)).isSome = false
  fn : ∃ (oc : Value) (od : Option Addr) (q : Str) (doc pm : Value) (an : Option Addr) (cda : Addr) (ct : Value) (cc : Addr) (osl : Array (Option Value)) (p1 p2 q1 q2 q3 q4 q5 q6 q7 q8 q9 q10 : Pos) (t : Str) (ccl : Value) (cdd : Option Addr) (vs : Array Value) (ccs : Array (Option Value)) (file : Str) (tf : Tok) (cl : Value) (cld : Option Addr) (csl : Array (Option Value)),
    K.lookup fI = some ⟨oc, od, .func (ksFn "__init__" q (xA f p1 p2) (xB f t q1 q2 q3 q4 q5 q6 q7 q8 q9 q10) (xS f) .none .none doc pm an (.ref cda) ct cc), osl⟩ ∧ codeIn K (.ref cda) q = true ∧
    K.lookup cda = some ⟨ccl, cdd, .fields vs, ccs⟩ ∧ vs[2]? = some (.str file tf) ∧ ((prog.main.file : Str) == file) = true ∧ K.lookup cc = some ⟨cl, cld, .cell (some (.ref C)), csl⟩ ∧
    (∀ L : Addr, ∃ pl : Sem Bool, eval (.Call (.Attribute (.Call (.Name "super" q1) [] [] q2) "__init__" q3) [.Constant (.str t) 0 q4] [] q5) (ksEnv q (xS f) L fI (.ref cda) cc) = (do
      let ov ← attributeBase (.Call (.Name "super" q1) [] [] q2) "__init__" (ksEnv q (xS f) L fI (.ref cda) cc) (eval (.Call (.Name "super" q1) [] [] q2) (ksEnv q (xS f) L fI (.ref cda) cc))
      standAt q3.atName
      let (f', first) ← holding [ov] (getMethod ov "__init__" pl)
      callWith q5 f' first (backTo q5 (starEach [.Constant (.str t) 0 q4] (ksEnv q (xS f) L fI (.ref cda) cc))) []))
theorem one_size (v : Value) : [v].length ≤ sizeLine := by
  rw [sizeLine_eq]
  exact (by decide : 1 ≤ 16777216)
/-- what __init__ leaves of a fresh exception at x -/
structure InitEnd (h h' : Heap) (x C dx t1 : Addr) (f : Str) (v : Value) : Prop where
  keep : ∀ b o, b ≠ x → h.get? b = some o → h'.get? b = some o
  obj : h'.get? x = some { cls := .ref C, dict := some dx, data := .fields #[.ref t1, .none, .none, .none, .bool false, .none] }
  dbig : h.objs.size ≤ dx
  dne : dx ≠ x
  ns : h'.Ns1 dx (fun y => if y = f then some v else none)
structure OwnMade (h h' : Heap) (e C d : Addr) (f : Str) (v : Value) : Prop where
  keep : ∀ b o, h.get? b = some o → h'.get? b = some o
  new : h.objs.size ≤ e
  obj : ∃ oe vs, h'.get? e = some oe ∧ oe.cls = .ref C ∧ oe.dict = some d ∧ oe.data = .fields vs ∧ vs[1]? = some .none
  dbig : h.objs.size ≤ d
  dne : d ≠ e
  ns : h'.Ns1 d (fun y => if y = f then some v else none)
section
variable {prog : Program} {w : World} {A : Around} {E : Value → Shared → Prop} {h : Heap} {g : Array GenState} {d : Drawn} {t : Nat} {os : OsState}
variable {nm q : Str} {C N : Addr} {bs bm : List Value} {hdct : Bool} {sn : List Str} {sub : List Value} {ab : Bool} {col : Option Bool} {dd : Option Addr} {k0 k1 k2 k3 k5 : Option Value}
theorem x_bound {bmB : List Value} {newId i : String} (FB : ExcBaseFacts "ValueError" newId i bmB) {u e t0 : Addr} {rest : List Value} {Q : Value → Shared → Prop}
    (hC : h.get? C = some (excClassObj nm q C N bs bm hdct sn sub ab col dd k0 k1 k2 k3 k5 newId)) (he : h.get? e = some (excO C t0)) (hu : h.get? u = some (kxs_mw i e)) (hz : rest.length ≤ sizeLine)
    (hq : ∀ h' t1, (∀ b o, b ≠ e → h.get? b = some o → h'.get? b = some o) → h'.get? e = some (excO C t1) → Q .none ⟨h', g, d, t, os⟩) :
    wpAny (model prog w) A (call (.ref u) rest) Q E ⟨h, g, d, t, os⟩ := by
  refine wpAny_call (codeAny_of_tree ?_)
  show wpAny _ A.in1 (callAny (.ref u) ⟨rest, []⟩) _ _ _
  simp only [callAny]
  refine wpAny_bind (wpAny_load hu ?_)
  simp only [kxs_mw, show (Value.type "method-wrapper" == Value.type "method" || Value.type "method-wrapper" == Value.type "builtin_function_or_method" || Value.type "method-wrapper" == Value.type "method-wrapper") = true by decide, if_true]
  refine KFB.if_so (by decide) ?_
  refine wpAny_bind (W.check_bound_init FB.toExcCallFacts hC he rfl ?_)
  refine wpAny_bind (wpAny_pure (wpAny_pure ?_))
  refine ⟨plainId_quiet FB.init.plain _, codeAny_builtin FB.initEntry ?_⟩
  exact exc_init_tree (cls := .ref C) (t0 := t0) (dv := none) (c2 := .none) (c3 := .none) (b4 := .bool false) he hz fun h' k e' _ => hq h' _ k e'
end
section
variable {prog : Program} {w : World} {A : Around} {E : Value → Shared → Prop} {R : Result → Shared → Prop} {s : Shared} {K : Frag} {mg mb : Str → Option Value} {name f : Str} {C fI : Addr}
theorem ldX {M : Model} {s : Shared} {env : Env} {m : Str → Option Value} {x : Str} {pos : Pos} {v : Value} {Q : Value → Shared → Prop} {A : Around} {E : Value → Shared → Prop} (hn : s.heap.Ns env.locals m) (hv : m x = some v) (h : Q v s)
    (hk : env.scope.kind = .function) (hl : env.kindOf x = some .local) (hd : (x == ("__debug__" : Str)) = false) :
    wpAny M A (eval (.Name x pos) env) Q E s := wpAny_Name (wpAny_loadName_local hk hl hn hv h) hd
theorem x_init (T : ErrTxt prog K mg name f C fI) {x t0 : Addr} {v : Value} (X : K.In s.heap) (hg : s.heap.Ns mainGlobals mg) (hb : s.heap.Ns builtinsNs mb) (hbb : mb "super" = some (.type "super")) (hlim : s.heap.NoLimit) (hnx : K.lookup x = none)
    (hx : s.heap.get? x = some (excO C t0)) (hroom : A.depth < recursionLimit) (hq : ∀ h' tk dx t1, InitEnd s.heap h' x C dx t1 f v → R (.ok (.ret .none)) { s with heap := h', toks := tk }) :
    codeAny (model prog w) A (.call (.ref fI) ⟨[.ref x, v], []⟩) R s := by
  obtain ⟨oc, od, q, doc, pm, an, cda, ct, cc, osl, p1, p2, q1, q2, q3, q4, q5, q6, q7, q8, q9, q10, t, ccl, cdd, vs, ccs, file, tf, cl, cld, csl, ho, hcd, hcode, hvs, hfile, hcell, hev⟩ := T.fn
  obtain ⟨nm, qq, N, bs, bm, sn, sub, ab, col, dd, k0, k1, k2, k3, k5, hC, hbm⟩ := T.cls
  have hcl : clsIn K C = some { name := nm, bases := bs, mro := .ref C :: bm, ns := N, qualname := qq, hasDict := true, slotNames := sn, subclasses := sub, abstract := ab, collection := col, hasDel := false } := by unfold clsIn; rw [hC] <;> rfl
  refine ks_codeAny_call_defAt (fd := ksFn "__init__" q (xA f p1 p2) (xB f t q1 q2 q3 q4 q5 q6 q7 q8 q9 q10) (xS f) .none .none doc pm an (.ref cda) ct cc) (binds := [("self", .ref x), (f, v)]) hroom (X _ _ ho) rfl hlim (codeRec_of X hcd) rfl
    (BindsTo.of_eq (T.nm.nb _ _ _ _ _ _ _ _ _ _ _ _)) (by
      intro y hy
      simp only [xS, List.mem_cons, List.not_mem_nil, or_false] at hy
      rcases hy with rfl | rfl | rfl | rfl <;> exact fun z => nomatch z) (by
      intro y hy
      simp only [List.mem_cons, List.not_mem_nil, or_false] at hy
      rcases hy with rfl | rfl
      · exact T.nm.n3
      · exact T.nm.n4) (fun h₁ hns k => ?_) rfl rfl rfl
  have X₁ : K.In h₁ := X.keeps k
  have hx₁ := k _ _ hx
  have b1 : ([(("self" : Str), Value.ref x), (f, v)] : List (Str × Value)).reverse.lookup ("self" : Str) = some (.ref x) := by
    simp [List.lookup, T.nm.n5]
  have b2 : ([(("self" : Str), Value.ref x), (f, v)] : List (Str × Value)).reverse.lookup f = some v := by
    simp [List.lookup]
  obtain ⟨hp0, g, dr, tk0, os⟩ := s
  obtain ⟨pl, hev⟩ := hev hp0.objs.size
  refine ks_wpAt_execs_cons (ks_wpAt_Expr_any (ks_wpAt_MethodCall (pl := pl) ?_ hev))
  refine ks_wpAt_super_base (env := ksEnv q (xS f) hp0.objs.size fI (.ref cda) cc) T.nm.n1 T.nm.n2 (by decide) rfl (X₁ _ _ ho) rfl rfl rfl (X₁ _ _ hcode) rfl hvs hfile T.htop ?_
  refine ks_loadName_global rfl T.nm.n1 (loadGlobal_builtin (env := ksEnv q (xS f) hp0.objs.size fI (.ref cda) cc) (hg.keeps k) T.noS (hb.keeps k) hbb ⟨rfl, ?_⟩)
  refine wpAny_loadName_free rfl T.nm.n2 rfl ⟨_, X₁ _ _ hcell, rfl⟩ ?_
  refine wpAny_loadName_local rfl T.nm.n3 hns b1 ?_
  refine ks_wpAny_isType_cls (X₁ _ _ hC) rfl ⟨rfl, ?_⟩
  refine ks_wpAny_call_super (X₁ _ _ hC) rfl hx₁ rfl (fun c e => nomatch e) (looks_mroIn X₁ T.selfC) (fun h₂ e2 kk2 => ?_)
  have X₂ : K.In h₂ := X₁.keeps kk2
  have hx₂ := kk2 _ _ hx₁
  have hI : Looks (model prog w) h₂ (isInstance (.ref x) (.type "ValueError")) true := (InstAt.type (od := none) ⟨hx₂, rfl, rfl, trivial⟩).andThen (looks_subIn X₂ T.subVE)
  have hxC : x ≠ C := ks_ne (odx := none) X₂ ⟨hx₂, rfl, rfl, trivial⟩ hcl
  have hsup := T.supI
  unfold ks_superIn at hsup
  rw [hcl] at hsup
  refine kxs_getMethod kxs_ValueError e2 (looks_opaque X₂ T.op) (l₀ := .ref C :: bm) (fun A Q E s k q => wpAny_bind ((looks_clsIn X₂ hcl) A _ E s k (wpAny_pure q))) rfl X₂ hsup hI hxC (by decide) ?_
  have hx₃ : (h₂.push (kxs_mw "ValueError.__init__" x)).get? x = some (excO C t0) := Heap.get?_push_of_some _ hx₂
  have hu₃ : (h₂.push (kxs_mw "ValueError.__init__" x)).get? h₂.objs.size = some (kxs_mw "ValueError.__init__" x) := Heap.get?_push_at rfl rfl
  refine kxs_callWith (i := "ValueError.__init__") (x := x) rfl (evalArgs_plain (x := eval (.Constant (.str t) 0 q4) _) (spliced_cons (Constant_str (pos := q4) (spliced_nil ⟨hu₃, ?_⟩))))
  refine x_bound F.excBase_ValueError (Heap.get?_push_of_some _ (X₂ _ _ hC)) hx₃ hu₃ (one_size _) fun h₄ t1 k4 hx₄ => ?_
  have kk : ∀ b o, b ≠ x → h₁.get? b = some o → h₄.get? b = some o := fun b o hb e => k4 b o hb (Heap.get?_push_of_some _ (kk2 b o e))
  have X₄ : K.In h₄ := fun a o e => kk a o (fun z => by rw [z, hnx] at e; cases e) (X₁ a o e)
  have hxL : hp0.objs.size ≠ x := Nat.ne_of_gt (Heap.lt_size hx)
  have hn₄ : h₄.Ns hp0.objs.size (fun y => ([(("self" : Str), Value.ref x), (f, v)] : List (Str × Value)).reverse.lookup y) := by
    obtain ⟨oL, es, ep, hL, r⟩ := hns
    exact ⟨oL, es, ep, kk _ _ hxL hL, r⟩
  refine wpAt_of_wpAny (wpAny_execs_cons (plainObj_wpAny_Assign_Attribute ?_))
  refine ldX (v := v) hn₄ b2 (ldX (v := .ref x) hn₄ b1 ?_ rfl T.nm.n3 (by decide)) rfl T.nm.n4 T.nm.n6
  refine set_plain X₄ (ox := excO C t1) (od := none) ⟨hx₄, rfl, rfl, trivial⟩ T.sa ?_
  refine exc_osa X₄ hx₄ hcl (show refsVE (.ref C :: bm) = true from hbm) rfl T.noN (fun h₃ tk₃ dx k₃ dn dne hx₃ hn₃ => ?_)
  have z : hp0.objs.size < h₄.objs.size := hn₄.lt
  exact wpAny_execs_nil (hq h₃ tk₃ dx t1 ⟨fun b o hb e => k₃ b o hb (kk b o hb (k b o e)), hx₃, Nat.le_of_lt (Nat.lt_of_lt_of_le z dn), dne, hn₃⟩)
theorem x_made (T : ErrTxt prog K mg name f C fI) {v : Value} (X : K.In s.heap) (hg : s.heap.Ns mainGlobals mg) (hb : s.heap.Ns builtinsNs mb) (hbb : mb "super" = some (.type "super")) (hlim : s.heap.NoLimit) (hroom : A.depth + 1 < recursionLimit)
    (hq : ∀ h' tk e d, OwnMade s.heap h' e C d f v → R (.ok (.ret (.ref e))) { s with heap := h', toks := tk }) :
    codeAny (model prog w) A (.call (.ref C) ⟨[v], []⟩) R s := by
  obtain ⟨nm, q, N, bs, bm, sn, sub, ab, col, dd, k0, k1, k2, k3, k5, hC, hbm⟩ := T.cls
  obtain ⟨hp, g, dr, tk, os⟩ := s
  have k : ∀ b o, hp.get? b = some o → ((hp.push (kdv_tup [v])).push (excO C hp.objs.size)).get? b = some o := fun b o e => Heap.get?_push_of_some _ (Heap.get?_push_of_some _ e)
  have hget : ((hp.push (kdv_tup [v])).push (excO C hp.objs.size)).get? (hp.objs.size + 1) = some (excO C hp.objs.size) := by heap_get
  have hnx : K.lookup (hp.objs.size + 1) = none := by
    cases e : K.lookup (hp.objs.size + 1) with
    | none => rfl
    | some o =>
      have z : hp.get? (hp.objs.size + 1) = some o := X _ _ e
      exact absurd (Nat.lt_of_succ_lt (Heap.lt_size z)) (Nat.lt_irrefl _)
  refine call_own F.excBase_ValueError (fun X => refsVE_contains X bm hbm) (X _ _ hC) (looks_findIn X T.iC) (fun self => bind_fn X self T.tC) (one_size v) ?_
  refine x_init (s := ⟨(hp.push (kdv_tup [v])).push (excO C hp.objs.size), g, dr, tk, os⟩) T (X.keeps k) (hg.keeps k) (hb.keeps k) hbb (hlim.keeps k) hnx hget ?_ fun h' tk' dx t1 ⟨k', hx, dn, dne, hns⟩ => ?_
  · show A.depth + 1 < recursionLimit
    exact hroom
  · have old : ∀ b o, hp.get? b = some o → h'.get? b = some o := fun b o e => k' b o (Nat.ne_of_lt (Nat.lt_succ_of_lt (Heap.lt_size e))) (k b o e)
    have z : hp.objs.size + 1 + 1 ≤ dx := by
      first
        | (simpa only [Heap.size_push] using dn)
        | exact dn
        | (have q := dn; rw [Heap.size_push, Heap.size_push] at q; exact q)
    exact ⟨rfl, hq h' tk' (hp.objs.size + 1) dx ⟨old, Nat.le_succ _, ⟨_, _, hx, rfl, rfl, rfl, rfl⟩, Nat.le_trans (Nat.le_trans (Nat.le_succ _) (Nat.le_succ _)) z, dne, hns⟩⟩
end
end DLX
end PySem

set_option maxHeartbeats 2000000
/-! DLY: raise, try .. except, isinstance of the caught error, its field. -/
namespace DL
open PySem PySem.Spec PyProof.Rows L2
theorem boot_super : bootBuiltins "super" = some (.type "super") := by first | rfl | kernel_rfl | decide +kernel
theorem relO_x {v : V} {v' : Value} (r : RelV v v') (g f : Str) : RelO (List.lookup f [(g, v)]) (if f = g then some v' else none) := by
  by_cases hw : f = g
  · subst hw
    rw [if_pos rfl]
    have q : List.lookup f [(f, v)] = some v := by simp [List.lookup]
    rw [q]
    exact r
  · rw [if_neg hw]
    have qw : (f == g) = false := by simpa using hw
    have q2 : List.lookup f [(g, v)] = none := by simp [List.lookup, qw]
    rw [q2]
    trivial
section
variable {X : Cx} {ρ ρ' ρ1 ρ2 : List Den} {pos : Pos} {W : WX} {name f : Str} {C fI : Addr}
def tMkX (C : Addr) (f : Str) (ta : TA) : L2.St → Hp → XK → Prop := fun σ H Q => ta σ H fun vs H1 => ∃ v, vs = [v] ∧ ∀ d, H1 d = none → Q (.ref C) (some d) (upd H1 d (.xd [(f, v)]))
theorem pmk_x {a : Expr} {ta : TA} {p pos : Pos} {k : Nat} (T : PySem.DLX.ErrTxt X.prog X.K X.mg name f C fI) (hr : Room k X.A) (ha : PA X [a] ta) (hg : Gl X name) (hdb : (name == ("__debug__" : Str)) = false)
    (he : starEach (a :: []) X.env = (false, eval a X.env) :: starEach [] X.env := by rfl) (hpl : (backTo pos (starEach [] X.env)).any (·.1) = false := by rfl) :
    PMk X (.Call (.Name name p) [a] [] pos) (tMkX C f ta) := by
  intro pins s σ H Q I h
  refine wpAny_Call_Name_kw (ld_glob I hg T.gC ?_ hdb)
  refine PySem.W.callWith_K (h₀ := X.base) I.ok.mod.kin T.kC (thn (ha.run pos pins s σ H _ I h) fun us s1 hh => ?_) he hpl
  obtain ⟨vs, H1, I1, r1, v, ev, q1⟩ := hh
  subst ev
  refine ⟨I1.kIn, ?_⟩
  cases r1 with
  | cons rv rn =>
    rename_i v' us'
    cases rn
    show wpAny _ _ (call (.ref C) [v']) _ _ _
    have hlim := I1.nolimit
    obtain ⟨mb, hb1, hb2⟩ := I1.mod.blt
    have hg1 := I1.mod.glob.keeps I1.bk
    have hb3 := hb1.keeps I1.bk
    obtain ⟨hp, g, dr, tk, os⟩ := s1
    refine wpAny_call (PySem.DLX.x_made T I1.kIn hg1 hb3 ((hb2 _ (by decide)).trans boot_super) hlim (by have := hr.dp; omega) fun h' tk' e d M => ?_)
    show MkP X pins σ Q (.ref e) ⟨h', g, dr, tk', os⟩
    obtain ⟨oe, fv, hoe, hc, hd, hdat, h1⟩ := M.obj
    have hns := M.ns
    obtain ⟨G', g1, g2⟩ := restrict h' fun b => decide (b ≠ e)
    have gk : ∀ b, b ≠ e → G'.get? b = h'.get? b := fun b hb => g1 b (decide_eq_true hb)
    have ge : G'.get? e = none := g2 e (by simp)
    have old : ∀ b o, hp.get? b = some o → G'.get? b = some o := fun b o q => (gk b (Nat.ne_of_lt (Nat.lt_of_lt_of_le (Heap.lt_size q) M.new))).trans (M.keep b o q)
    have ob : ObjOk X.prog X.w (upd H1 d (.xd [(f, v)])) G' d (.xd [(f, v)]) :=
      ⟨_, hns.at (fun o q => (gk d M.dne).trans q), fun y => relO_x rv f y⟩
    have J : Inv X pins σ (upd H1 d (.xd [(f, v)])) ⟨G', g, dr, tk', os⟩ := I1.laid (t' := tk') old M.dbig ob
    refine ⟨e, oe, fv, ⟨G', g, dr, tk', os⟩, _, .ref C, some d, rfl, J, fun b o q => ?_, ge, hoe, ⟨hc, hd⟩, hdat, h1, ?_, rfl, I1.bare, raises_own T.exC T.tyC, q1 d (I1.hok.fresh M.dbig)⟩
    · by_cases hb : b = e
      · have q' : G'.get? b = some o := q
        rw [hb, ge] at q'; cases q'
      · exact (gk b hb).symm.trans q
    · rw [upd_ne (Ne.symm M.dne)]
      exact I1.hok.fresh M.new
/-- raise C(e) -/
theorem ES.raise {a : Expr} {p p1 p2 : Pos} {k : Nat} {d : PyData} (hc : X.calm = true) (T : PySem.DLX.ErrTxt X.prog X.K X.mg name f C fI) (hr : Rm k X.A) (tk : Takes X W) (ha : Ev X ρ a d ρ') (hg : Gl X name) (hdb : (name == ("__debug__" : Str)) = false := by decide)
    (he : starEach (a :: []) X.env = (false, eval a X.env) :: starEach [] X.env := by rfl) (hpl : (backTo p1 (starEach [] X.env)).any (·.1) = false := by rfl) :
    ES X W ρ (.Raise (some (.Call (.Name name p) [a] [] p1)) none p2) (.exc C [f] [d] ρ') := by
  obtain ⟨t, ht, h1⟩ := EvA.cons ha EvA.nil he
  refine ⟨_, ps_raise hc tk (pmk_x T hr.r ht hg hdb he hpl), fun σ G H D s h => ?_⟩
  refine h1 σ G H _ s fun vs G1 H1 n1 q1 => ?_
  cases q1 with
  | cons q1 qn =>
    cases qn
    rename_i v
    refine ⟨v, rfl, fun dd hd => ?_⟩
    have n2 : Nxt X.K G H σ ρ G1 (upd H1 dd (.xd [(f, v)])) σ ρ' := n1.trans (.ext n1.st (.laidH hd) (Same.laidH n1.st.sub hd))
    exact h dd [v] σ G1 _ n2 upd_same rfl (.cons q1 .nil)

/-! ### try -/
def tCan (K : PySem.W.Frag) (W : WX) (ρ : List Den) (o : Out) : TS := fun D σ H => ∃ G, StD K G H σ ρ ∧ Fin K W G H σ ρ D o
theorem Ex.can {ss : List Stmt} {o : Out} (h : Ex X W ρ ss o) : PSs X ss (tCan X.K W ρ o) := by
  obtain ⟨t, ht, h1⟩ := h
  exact ⟨fun pins s σ H D I ⟨G, sd, fn⟩ => ht.run pins s σ H D I (h1 σ G H D sd fn)⟩
/-- what a suite hands on: the slot of the error's name is cut -/
def cutO (i : Nat) : Out → Option Out
  | .ret d ρ => some (.ret d ρ)
  | .nx ρ => some (.nx (ρ.set i .un))
  | _ => none
theorem Nxt.unset {K : PySem.W.Frag} {G H : Hp} {σ : L2.St} {i : Nat} (s : StD K G H σ ρ) (hf : isFix ρ[i]? = false) : Nxt K G H σ ρ G H (σ.set i none) (ρ.set i .un) := by
  refine ⟨.refl, ⟨s.sub, by simp [s.len], fun j den e => ?_, fun j l a h1 h2 => ?_⟩, fun a ⟨j, h⟩ => ?_, Nxt.fixset hf⟩
  · rcases get_set e with ⟨_, rfl⟩ | ⟨hj, e⟩
    · trivial
    · rw [List.getElem?_set_ne (Ne.symm hj)]
      exact s.at_ j den e
  · rcases h1.of_set with ⟨_, z, _⟩ | ⟨_, h1⟩
    · cases z
    · rcases h2.of_set with ⟨_, z, _⟩ | ⟨_, h2⟩
      · cases z
      · exact s.inj j l a h1 h2
  · rcases h.of_set with ⟨_, z, _⟩ | ⟨_, h⟩
    · cases z
    · exact .inl ⟨j, h⟩
theorem ES.tryX {x n : Str} {cv : Value} {i : Nat} {body suite : List Stmt} {b₀ : Stmt} {np pos' : Pos} {c : Addr} {ks : List Str} {ys : List PyData} {out o : Out} (hs : X.stack = X.env :: X.outer) (hfr : X.env.frame = some X.env.locals) (hN : X.N.Nodup) (hi : X.N[i]? = some n) (hln : X.env.kindOf n = some .local)
    (hc : Names X x cv) (tk : Takes X W) (hx : PySem.W.exmOne X.K (.ref c) cv = some true) (hf : isFix ρ1[i]? = false)
    (hb : ∀ (W' : WX) (pn : List (Addr × Obj)) (xe : Value → Shared → Prop), Takes (X.tr pn xe) W' → PassesOwn (model X.prog X.w) X.A X.env xe → Ex (X.tr pn xe) W' ρ body (.exc c ks ys ρ1))
    (ho : cutO i out = some o)
    (hsu : ∀ (a dd : Addr) (oe : Obj) (pn : List (Addr × Obj)), Zc (.ref c) (some dd) oe → (∃ vs, oe.data = .fields vs) → Ex (X.suite a ((a, oe) :: pn)) (fun _ _ _ _ => False) (ρ1.set i (.exc a dd ks ys)) (b₀ :: suite) out)
    (hof : ∀ ρ', out = .nx ρ' → isFix ρ'[i]? = false) :
    ES X W ρ (.Try body [.ExceptHandler (some (.Name x np)) (some n) (b₀ :: suite) pos'] [] [] pos) o := by
  refine ⟨_, ps_try_as (tb := fun W' => tCan X.K W' ρ (.exc c ks ys ρ1)) (ts := fun a cls d D σ H => ∃ dd, cls = .ref c ∧ d = some dd ∧ tCan X.K (fun _ _ _ _ => False) (ρ1.set i (.exc a dd ks ys)) out D σ H) (Wout := W) hs hfr hN hi hln hc tk
    (fun W' pn xe tk' po => (hb W' pn xe tk' po).can)
    (fun a oe cls d pn hz hfl => ⟨fun pins s σ H D I ⟨dd, e1, e2, h⟩ => by
      subst e1 e2
      exact (hsu a dd oe pn hz hfl).can.run pins s σ H D I h⟩), fun σ G H D s h => ?_⟩
  refine ⟨G, s, fun dd vs σ' G' H' n1 q1 q2 q3 => ⟨true, hx, fun _ a ha => ⟨dd, rfl, rfl, G', ?_, ?_⟩, fun z => nomatch z⟩⟩
  · exact n1.st.set ⟨vs, rfl, q1, q2, q3⟩ fun z => nomatch z
  · have n2 := n1.trans (Nxt.set (v := .ref a) (den := .exc a dd ks ys) (i := i) n1.st ⟨vs, rfl, q1, q2, q3⟩ rfl hf)
    cases out with
    | ret d ρ' =>
      cases ho
      exact fun v σ2 G2 H2 n3 q => h v σ2 G2 H2 (n2.trans n3) q
    | nx ρ' =>
      cases ho
      exact fun σ2 G2 H2 n3 => h _ G2 H2 ((n2.trans n3).trans (Nxt.unset n3.st (hof _ rfl)))
    | brk _ => cases ho
    | cnt _ => cases ho
    | exc _ _ _ _ => cases ho
/-- the body raises nothing -/
theorem ES.tryN {x n : Str} {cv : Value} {i : Nat} {body suite : List Stmt} {b₀ : Stmt} {np pos' : Pos} {o : Out} (hs : X.stack = X.env :: X.outer) (hfr : X.env.frame = some X.env.locals) (hN : X.N.Nodup) (hi : X.N[i]? = some n) (hln : X.env.kindOf n = some .local)
    (hc : Names X x cv) (tk : Takes X W)
    (hb : ∀ (W' : WX) (pn : List (Addr × Obj)) (xe : Value → Shared → Prop), Takes (X.tr pn xe) W' → PassesOwn (model X.prog X.w) X.A X.env xe → Ex (X.tr pn xe) W' ρ body o)
    (ho : ∀ c ks ys ρ', o ≠ .exc c ks ys ρ')
    (hsu : ∀ (a : Addr) (oe : Obj) (cls : Value) (d : Option Addr) (pn : List (Addr × Obj)), Zc cls d oe → (∃ vs, oe.data = .fields vs) → ∃ t, PSs (X.suite a ((a, oe) :: pn)) (b₀ :: suite) t) :
    ES X W ρ (.Try body [.ExceptHandler (some (.Name x np)) (some n) (b₀ :: suite) pos'] [] [] pos) o := by
  refine ⟨_, ps_try_as (tb := fun W' => tCan X.K W' ρ o) (ts := fun a cls d D σ H => False) (Wout := W) hs hfr hN hi hln hc tk
    (fun W' pn xe tk' po => (hb W' pn xe tk' po).can)
    (fun a oe cls d pn hz hfl => ⟨fun pins s σ H D I h => h.elim⟩), fun σ G H D s h => ⟨G, s, ?_⟩⟩
  cases o with
  | ret d ρ' => exact h
  | nx ρ' => exact h
  | brk _ => exact h
  | cnt _ => exact h
  | exc c ks ys ρ' => exact absurd rfl (ho c ks ys ρ')

/-! ### in the suite -/
structure ExcK (K : PySem.W.Frag) (D : Addr) : Prop where
  hc : (PySem.W.clsIn K D).isSome = true
  hg : PySem.W.findIn K (.ref D) "__getattribute__" = some (some (.builtin "BaseException.__getattribute__"))
  hk : PySem.W.findIn K (.ref D) "__getattr__" = some none
  hs : PySem.W.subIn K (.ref D) (.type "BaseException") = some true
  hd : PySem.W.hasDictIn K D = true
  ha : PySem.W.findIn K (.ref D) "__class__" = some (some (.builtin "object.__class__"))
  hn : PySem.W.specialIn K (.builtin "object.__class__") "__get__" = some (some (.builtin "getset_descriptor.__get__"))
  ht : PySem.W.takesIn K (.builtin "object.__class__") = some true
  hm : PySem.W.mroIn K D (.type "object") = some true
/-- isinstance(e, c) -/
def rIsX (K : PySem.W.Frag) (D a dd : Addr) : List V → Hp → VK → Prop := fun xs H Q => ∃ (c : V) (cv : Value) (b : Bool) (fs : List (Str × V)), xs = [.ref a, c] ∧ (∀ u, RelV c u → u = cv) ∧ PySem.W.kitOne K (.ref D) cv = some b ∧ H dd = some (.xd fs) ∧ Q (.bl b) H
theorem call_isX {a D dd : Addr} {oe : Obj} {pn : List (Addr × Obj)} (C : ExcK X.K D) (hz : Zc (.ref D) (some dd) oe) (hf : ∃ vs, oe.data = .fields vs) : CallR (X.suite a ((a, oe) :: pn)) (.builtin "isinstance") (rIsX X.K D a dd) := by
  intro pins s σ H xs us Q I r h
  obtain ⟨c, cv, b, fs, rfl, hcv, e, hH, q⟩ := h
  cases r with
  | cons rx rr =>
    cases rr with
    | cons rt rr =>
      cases rr
      cases rx
      have ec := hcv _ rt
      subst ec
      obtain ⟨hget, _⟩ := I.pin (a, oe) (List.mem_append.mpr (.inl List.mem_cons_self))
      obtain ⟨vs, hv⟩ := hf
      have hx : ObjOk X.prog X.w H s.heap dd (.xd fs) := I.hok dd _ hH
      obtain ⟨mA, hns, hr⟩ := hx
      obtain ⟨od, ho, hl⟩ := lookIn_ns hns
      have J : PySem.W.InstAt s.heap a oe D (some od) := ⟨hget, hz.1, by unfold PySem.W.notCls; rw [hv] <;> rfl, by rw [hz.2]; exact ho⟩
      exact PySem.W.kia_one (PySem.W.kitx_exc C.hc C.hg C.hk C.hs C.ha C.hn C.ht C.hm) I.kIn J e (fun z => nomatch z) fun tk => ⟨.bl b, H, I.kept (t' := tk) fun _ _ z => z, rfl, q⟩
end
section
variable {X : Cx} {ρ ρ' ρ1 ρ2 : List Den} {pos : Pos} {a D dd : Addr} {oe : Obj} {pn : List (Addr × Obj)} {ks : List Str} {ys : List PyData}
/-- isinstance(e, c) in the suite -/
theorem Ev.isX {n cn isn : Str} {p p1 p2 : Pos} {w : V} {cv : Value} {b : Bool} (C : ExcK X.K D) (hz : Zc (.ref D) (some dd) oe) (hf : ∃ vs, oe.data = .fields vs) (his : isn = "isinstance") (hgi : Gl X isn) (hmi : X.mg isn = none)
    (i : Nat) (hi : ρ[i]? = some (.exc a dd ks ys)) (hN : X.N[i]? = some n) (hv : Vis X.env.scope n) (hd : (n == ("__debug__" : Str)) = false := by decide) (hcd : (n == ("__classdict__" : Str)) = false := by decide)
    (hw : EvV (X.suite a ((a, oe) :: pn)) ρ (.Name cn p2) w) (hcv : ∀ u, RelV w u → u = cv) (hk : PySem.W.kitOne X.K (.ref D) cv = some b)
    (h1 : starEach [.Name n p1, .Name cn p2] X.env = (false, eval (.Name n p1) X.env) :: starEach [.Name cn p2] X.env := by rfl)
    (h2 : starEach [.Name cn p2] X.env = (false, eval (.Name cn p2) X.env) :: starEach [] X.env := by rfl) (hpl : (backTo pos (starEach [.Name cn p2] X.env)).any (·.1) = false := by rfl) :
    Ev (X.suite a ((a, oe) :: pn)) ρ (.Call (.Name isn p) [.Name n p1, .Name cn p2] [] pos) (.bool b) ρ := by
  subst his
  obtain ⟨t, ht, g1⟩ := hw
  refine ⟨_, pe_callB (call_isX C hz hf) hgi hmi Boot.«isinstance» (pa_cons (pe_var hN hv hd hcd) (pa_cons ht pa_nil h2) h1) (by decide) (by decide) h1 hpl, fun σ G H Q s h => ?_⟩
  obtain ⟨vs, e, hd1, l, q⟩ := s.at_ i _ hi
  refine ⟨.ref a, e, g1 σ G H _ s ?_⟩
  exact ⟨w, cv, b, _, rfl, hcv, hk, hd1, h _ G H (.refl s) (.bl b)⟩
theorem zipLook {K : PySem.W.Frag} {G : Hp} {y : PyData} {f : Str} : ∀ {ks : List Str} {vs : List V} {ys : List PyData}, ks.length = vs.length → DpAll K G vs ys → (ks.zip ys).lookup f = some y → ∃ v, (ks.zip vs).lookup f = some v ∧ Dp K G v y
  | [], _, _, _, _, e => by simp at e
  | k :: ks, [], _, l, _, _ => by simp at l
  | k :: ks, v :: vs, _, l, .cons h t, e => by
    simp only [List.zip_cons_cons, List.lookup] at e ⊢
    split at e
    · cases e
      exact ⟨v, rfl, h⟩
    · exact zipLook (by simpa using l) t e
/-- e.f in the suite -/
theorem Ev.fldX {n f : Str} {p : Pos} {y : PyData} (C : ExcK X.K D) (hno : PySem.W.findIn X.K (.ref D) f = some none) (hz : Zc (.ref D) (some dd) oe) (hf : ∃ vs, oe.data = .fields vs)
    (i : Nat) (hi : ρ[i]? = some (.exc a dd ks ys)) (hy : (ks.zip ys).lookup f = some y) (hN : X.N[i]? = some n) (hv : Vis X.env.scope n) (hd : (n == ("__debug__" : Str)) = false := by decide) (hcd : (n == ("__classdict__" : Str)) = false := by decide)
    (hb : attributeBase (.Name n p) f X.env (eval (.Name n p) X.env) = eval (.Name n p) X.env := by rfl) :
    Ev (X.suite a ((a, oe) :: pn)) ρ (.Attribute (.Name n p) f pos) y ρ := by
  have he : PE (X.suite a ((a, oe) :: pn)) (.Name n p) _ := pe_var hN hv hd hcd
  refine ⟨fun σ H Q => ∃ vs v, σ[i]? = some (some (.ref a)) ∧ H dd = some (.xd (ks.zip vs)) ∧ (ks.zip vs).lookup f = some v ∧ Q v H, ⟨fun pins s σ H Q I ⟨vs, v, e1, ea, hlk, q⟩ => ?_⟩, fun σ G H Q s h => ?_⟩
  · refine attr_of hb (thn (he.run pins s σ H (fun x H1 => x = .ref a ∧ H1 = H) I ⟨_, e1, rfl, rfl⟩) fun u s1 hh => ?_)
    obtain ⟨x, H1, I1, rx, ex, eH⟩ := hh
    subst ex eH
    obtain rfl : u = Value.ref a := rx
    obtain ⟨ha, _⟩ := I1.pin (a, oe) (List.mem_append_left _ List.mem_cons_self)
    obtain ⟨fv, hdat⟩ := hf
    have hx : ObjOk X.prog X.w H1 s1.heap dd (.xd (ks.zip vs)) := I1.hok dd _ ea
    obtain ⟨mA, hns, hr⟩ := hx
    obtain ⟨od, ho, hl⟩ := lookIn_ns hns
    obtain ⟨u, hu, ru⟩ := RelO.some_of (v := v) (o := mA f) (by rw [← hlk]; exact hr f)
    have J : PySem.W.InstAt s1.heap a oe D (some od) := ⟨ha, hz.1, by unfold PySem.W.notCls; rw [hdat] <;> rfl, by rw [hz.2]; exact ho⟩
    exact HandSPX.exc_get I1.kIn J C.hg C.hk C.hs (PySem.W.findObj_own C.hd hno rfl (by rw [hl, hu])) (handed_of ru) ⟨v, H1, I1.tok _, ru, q⟩
  · obtain ⟨vs, e, hd1, l, q⟩ := s.at_ i _ hi
    obtain ⟨v, hv1, hv2⟩ := zipLook l q hy
    exact ⟨vs, v, e, hd1, hv1, h v G H (.refl s) hv2⟩
end
end DL

/-! DLQ: small rules: len, sum, abs, int, tuple, list, subscripts, count; what is forgotten. -/
namespace DL
open PySem PySem.Spec PyProof.Rows L2
section
variable {X : Cx} {ρ ρ' ρ1 ρ2 : List Den} {pos : Pos} {K : PySem.W.Frag}
/-! ### built-ins of one argument -/
theorem Ev.len {x : Str} {p : Pos} {e : Expr} {k : Bool} {ds : List PyData} (hx : x = "len") (hg : Gl X x) (hm : X.mg x = none) (ha : Ev X ρ e (seqD k ds) ρ')
    (he : starEach (e :: []) X.env = (false, eval e X.env) :: starEach [] X.env := by rfl) (hpl : (backTo pos (starEach [] X.env)).any (·.1) = false := by rfl) :
    Ev X ρ (.Call (.Name x p) [e] [] pos) (.int ds.length) ρ' := by
  subst hx
  refine .callB (as := [.d (seqD k ds)]) call_len_seq (fun σ G H vs Q s ha q => ?_) hg hm Boot.«len» (.cons ha .nil he) (by decide) (by decide) he hpl
  cases ha with
  | cons h t =>
    cases t
    obtain ⟨a, us, rfl, hk, hd⟩ := dpK h
    refine ⟨a, us, rfl, ?_, ?_⟩
    · cases k with
      | true => exact .inl (s.seq hk)
      | false => exact .inr (SqT_mono s hk)
    · rw [hd.length]
      exact q _ G H .refl s (.int _)
theorem Ev.sum {x : Str} {p : Pos} {e : Expr} {ns : List Int} (hc : X.calm = true) (hx : x = "sum") (hg : Gl X x) (hm : X.mg x = none) (ha : Ev X ρ e (.list (ns.map .int)) ρ')
    (he : starEach (e :: []) X.env = (false, eval e X.env) :: starEach [] X.env := by rfl) (hpl : (backTo pos (starEach [] X.env)).any (·.1) = false := by rfl) :
    Ev X ρ (.Call (.Name x p) [e] [] pos) (.int ns.sum) ρ' := by
  subst hx
  refine .callB (as := [.d (.list (ns.map .int))]) (cr_sum hc) (fun σ G H vs Q s ha q => ?_) hg hm (by decide +kernel) (.cons ha .nil he) (by decide) (by decide) he hpl
  cases ha with
  | cons h t =>
    cases t
    cases h with
    | lst hq hd =>
      rw [hd.ints] at hq
      exact ⟨_, ns, rfl, s.seq hq, q _ G H .refl s (.int _)⟩
theorem Ev.abs {x : Str} {p : Pos} {e : Expr} {i : Int} (hx : x = "abs") (hg : Gl X x) (hm : X.mg x = none) (ha : Ev X ρ e (.int i) ρ')
    (he : starEach (e :: []) X.env = (false, eval e X.env) :: starEach [] X.env := by rfl) (hpl : (backTo pos (starEach [] X.env)).any (·.1) = false := by rfl) :
    Ev X ρ (.Call (.Name x p) [e] [] pos) (.int i.natAbs) ρ' := by
  subst hx
  refine .callB (as := [.d (.int i)]) call_abs (fun σ G H vs Q s ha q => ?_) hg hm Boot.«abs» (.cons ha .nil he) (by decide) (by decide) he hpl
  cases ha with
  | cons h t =>
    cases t
    cases h
    refine ⟨i, rfl, ?_⟩
    have e : (if i < 0 then -i else i) = (i.natAbs : Int) := by split <;> omega
    rw [e]
    exact q _ G H .refl s (.int _)
theorem Ev.toInt {x : Str} {p : Pos} {e : Expr} {i : Int} (hx : x = "int") (hg : Gl X x) (hm : X.mg x = none) (ha : Ev X ρ e (.int i) ρ')
    (he : starEach (e :: []) X.env = (false, eval e X.env) :: starEach [] X.env := by rfl) (hpl : (backTo pos (starEach [] X.env)).any (·.1) = false := by rfl) :
    Ev X ρ (.Call (.Name x p) [e] [] pos) (.int i) ρ' := by
  subst hx
  refine .callTy (as := [.d (.int i)]) call_int1 (fun σ G H vs Q s ha q => ?_) hg hm Boot.«int» (.cons ha .nil he) (by decide) (by decide) he hpl
  cases ha with
  | cons h t =>
    cases t
    cases h
    exact .inl ⟨i, rfl, q _ G H .refl s (.int _)⟩
theorem Ev.intB {x : Str} {p : Pos} {e : Expr} {b : Bool} (hx : x = "int") (hg : Gl X x) (hm : X.mg x = none) (ha : Ev X ρ e (.bool b) ρ')
    (he : starEach (e :: []) X.env = (false, eval e X.env) :: starEach [] X.env := by rfl) (hpl : (backTo pos (starEach [] X.env)).any (·.1) = false := by rfl) :
    Ev X ρ (.Call (.Name x p) [e] [] pos) (.int (if b then 1 else 0)) ρ' := by
  subst hx
  refine .callTy (as := [.d (.bool b)]) call_int1 (fun σ G H vs Q s ha q => ?_) hg hm Boot.«int» (.cons ha .nil he) (by decide) (by decide) he hpl
  cases ha with
  | cons h t =>
    cases t
    cases h
    exact .inr ⟨b, rfl, q _ G H .refl s (.int _)⟩
theorem Ev.tupOf {x : Str} {p : Pos} {e : Expr} {k : Bool} {ds : List PyData} (hx : x = "tuple") (hg : Gl X x) (hm : X.mg x = none) (ha : Ev X ρ e (seqD k ds) ρ')
    (he : starEach (e :: []) X.env = (false, eval e X.env) :: starEach [] X.env := by rfl) (hpl : (backTo pos (starEach [] X.env)).any (·.1) = false := by rfl) :
    Ev X ρ (.Call (.Name x p) [e] [] pos) (.tuple ds) ρ' := by
  subst hx
  refine .callTy (as := [.d (seqD k ds)]) call_tuple_of (fun σ G H vs Q s ha q => ?_) hg hm Boot.«tuple» (.cons ha .nil he) (by decide) (by decide) he hpl
  cases ha with
  | cons h t =>
    cases t
    obtain ⟨a, us, rfl, hk, hd⟩ := dpK h
    refine ⟨a, us, rfl, ?_⟩
    cases k with
    | true =>
      refine .inl ⟨s.seq hk, fun l hl => ?_⟩
      have st := Stp.laid (o := .tup us) s hl
      exact q _ _ _ st s.laid (.tup (.inl (.inl upd_same)) (DpAll_mono st.gsub _ _ hd))
    | false => exact .inr ⟨SqT_mono s hk, q _ G H .refl s (.tup hk hd)⟩
theorem EvO.listOf {x : Str} {p : Pos} {e : Expr} {k : Bool} {ds : List PyData} (hx : x = "list") (hg : Gl X x) (hm : X.mg x = none) (ha : Ev X ρ e (seqD k ds) ρ')
    (he : starEach (e :: []) X.env = (false, eval e X.env) :: starEach [] X.env := by rfl) (hpl : (backTo pos (starEach [] X.env)).any (·.1) = false := by rfl) :
    EvO X ρ (.Call (.Name x p) [e] [] pos) ds ρ' := by
  subst hx
  refine .callTy (as := [.d (seqD k ds)]) call_list_of (fun σ G H vs Q s ha q => ?_) hg hm Boot.«list» (.cons ha .nil he) (by decide) (by decide) he hpl
  cases ha with
  | cons h t =>
    cases t
    obtain ⟨a, us, rfl, hk, hd⟩ := dpK h
    refine ⟨a, us, rfl, ?_, q us hd⟩
    cases k with
    | true => exact .inl (s.seq hk)
    | false => exact .inr (SqT_mono s hk)
/-- tuple(..) of a fresh list -/
theorem Ev.tupO {x : Str} {p : Pos} {e : Expr} {ds : List PyData} (hx : x = "tuple") (hg : Gl X x) (hm : X.mg x = none) (ha : EvO X ρ e ds ρ')
    (he : starEach (e :: []) X.env = (false, eval e X.env) :: starEach [] X.env := by rfl) (hpl : (backTo pos (starEach [] X.env)).any (·.1) = false := by rfl) :
    Ev X ρ (.Call (.Name x p) [e] [] pos) (.tuple ds) ρ' := Ev.tupOf (k := true) hx hg hm ha.ev he hpl
theorem Ev.sumO {x : Str} {p : Pos} {e : Expr} {ns : List Int} (hc : X.calm = true) (hx : x = "sum") (hg : Gl X x) (hm : X.mg x = none) (ha : EvO X ρ e (ns.map .int) ρ')
    (he : starEach (e :: []) X.env = (false, eval e X.env) :: starEach [] X.env := by rfl) (hpl : (backTo pos (starEach [] X.env)).any (·.1) = false := by rfl) :
    Ev X ρ (.Call (.Name x p) [e] [] pos) (.int ns.sum) ρ' := Ev.sum hc hx hg hm ha.ev he hpl

/-! ### subscripts of data -/
theorem atI_all {G : Hp} {vs : List V} {ds : List PyData} {j : Int} {d : PyData} (hd : DpAll K G vs ds) (hj : atI ds j = some d) : ∃ v, atI vs j = some v ∧ Dp K G v d := by
  unfold atI at hj ⊢
  rw [← hd.length] at hj
  cases ek : ixN vs.length j with
  | none => rw [ek] at hj; cases hj
  | some k =>
    rw [ek, Option.bind_some] at hj
    obtain ⟨v, hv, hq⟩ := hd.get hj
    exact ⟨v, by rw [Option.bind_some]; exact hv, hq⟩
theorem Ev.ixL {a b : Expr} {ds : List PyData} {j : Int} {d : PyData} (ha : Ev X ρ a (.list ds) ρ1) (hb : Ev X ρ1 b (.int j) ρ2) (hj : atI ds j = some d) (hs : PlainIx b := by intro _ _; rfl) : Ev X ρ (.Subscript a b pos) d ρ2 :=
  .ix ix_list (.flat fun G H v1 v2 Q s h1 h2 q => by
    cases h2
    cases h1 with
    | lst hq hd =>
      obtain ⟨v, hv, hv2⟩ := atI_all hd hj
      exact ⟨_, _, j, v, rfl, rfl, s.seq hq, hv, q v hv2⟩) ha hb hs
theorem Ev.ixT {a b : Expr} {ds : List PyData} {j : Int} {d : PyData} (ha : Ev X ρ a (.tuple ds) ρ1) (hb : Ev X ρ1 b (.int j) ρ2) (hj : atI ds j = some d) (hs : PlainIx b := by intro _ _; rfl) : Ev X ρ (.Subscript a b pos) d ρ2 :=
  .ix ix_tup (.flat fun G H v1 v2 Q s h1 h2 q => by
    cases h2
    cases h1 with
    | tup hq hd =>
      obtain ⟨v, hv, hv2⟩ := atI_all hd hj
      exact ⟨_, _, j, v, rfl, rfl, SqT_mono s hq, hv, q v hv2⟩) ha hb hs
theorem atI_at {α : Type} {xs : List α} {n : Nat} {x : α} (h : xs[n]? = some x) : atI xs (n : Int) = some x := by
  have hl : n < xs.length := (List.getElem?_eq_some_iff.mp h).1
  unfold atI ixN
  rw [if_pos (by omega), if_pos (by omega), Option.bind_some]
  simpa using h
theorem atI_last {α : Type} {xs : List α} {x : α} : atI (xs ++ [x]) (-1) = some x := by
  unfold atI ixN
  rw [if_neg (by omega), if_pos (by simp only [List.length_append, List.length_cons, List.length_nil]; omega), Option.bind_some]
  have e : ((-1 : Int) + ((xs ++ [x]).length : Nat)).toNat = xs.length := by simp only [List.length_append, List.length_cons, List.length_nil]; omega
  rw [e]
  simp

/-! ### what is forgotten -/
inductive WkL : List Den → List Den → Prop where
  | nil : WkL [] []
  | same {d : Den} {ρ ρ' : List Den} : WkL ρ ρ' → WkL (d :: ρ) (d :: ρ')
  | un {d : Den} {ρ ρ' : List Den} : isFix (some d) = false → WkL ρ ρ' → WkL (d :: ρ) (.un :: ρ')
  | frz {xs : List PyData} {ρ ρ' : List Den} : WkL ρ ρ' → WkL (.own false xs :: ρ) (.d (.list xs) :: ρ')
theorem WkL.weak : ∀ {ρ ρ' : List Den}, WkL ρ ρ' → ∀ pre : List Den, Weak K (pre ++ ρ) (pre ++ ρ')
  | _, _, .nil, pre => .refl
  | _, _, .same (d := d) h, pre => by
    have := WkL.weak h (pre ++ [d])
    simpa using this
  | _, _, .un (d := d) (ρ := ρ) (ρ' := ρ') hf h, pre => by
    have h1 := Weak.forget (K := K) (ρ := pre ++ d :: ρ) pre.length (by simpa using hf)
    have h2 := WkL.weak h (pre ++ [.un])
    have e : (pre ++ d :: ρ).set pre.length .un = pre ++ .un :: ρ := by simp
    rw [e] at h1
    exact h1.trans (by simpa using h2)
  | _, _, .frz (xs := xs) (ρ := ρ) (ρ' := ρ') h, pre => by
    have h1 := Weak.freeze (K := K) (ρ := pre ++ .own false xs :: ρ) (xs := xs) pre.length (by simp)
    have h2 := WkL.weak h (pre ++ [.d (.list xs)])
    have e : (pre ++ Den.own false xs :: ρ).set pre.length (.d (.list xs)) = pre ++ .d (.list xs) :: ρ := by simp
    rw [e] at h1
    exact h1.trans (by simpa using h2)
theorem Weak.of {ρ ρ' : List Den} (h : WkL ρ ρ') : Weak K ρ ρ' := by simpa using WkL.weak (K := K) h []
theorem ES.weakNx {W : WX} {st : Stmt} (h : ES X W ρ st (.nx ρ1)) (w : Weak X.K ρ1 ρ2) : ES X W ρ st (.nx ρ2) := by
  obtain ⟨t, ht, g⟩ := h
  refine ⟨t, ht, fun σ G H D s hD => ?_⟩
  refine g σ G H D s fun σ' G' H' n => ?_
  obtain ⟨G2, n2⟩ := w G' H' σ' n.st
  exact hD σ' G2 H' (n.trans n2)

/-! ### xs.count(True) -/
theorem Ev.countB {o : Expr} {b : Bool} {ap cp cpos : Pos} {j} {bs : List Bool} (ho : Ev X ρ o (.list (bs.map .bool)) ρ1) (hbase : attributeBase o "count" X.env (eval o X.env) = eval o X.env := by rfl)
    (hfew : ((backTo cpos (starEach [.Constant (.bool b) j cp] X.env)).all (fun x => !x.1) && (backToKw cpos (keywordEach [] X.env)).all (fun x => x.1.isSome)
      && decide (([.Constant (.bool b) j cp] : List Expr).length + ([] : List Keyword).length + (if ([] : List Keyword).isEmpty then 0 else 1) < 30)) = true := by rfl)
    (hline : (ap.endLine == cpos.line) = true := by rfl) (hs : starEach [.Constant (.bool b) j cp] X.env = (false, eval (.Constant (.bool b) j cp) X.env) :: starEach [] X.env := by rfl) (hplain : (backTo cpos (starEach [] X.env)).any (·.1) = false := by rfl) :
    Ev X ρ (.Call (.Attribute o "count" ap) [.Constant (.bool b) j cp] [] cpos) (.int (bs.count b : Nat)) ρ1 := by
  obtain ⟨t, ht, h1⟩ := ho
  refine ⟨_, pe_bm F.plainAttrs_list F.slot_list_count F.type_list_count mt_countB ht (pa_cons pe_bl pa_nil hs) hbase hfew hline hs hplain, fun σ G H Q s h => ?_⟩
  refine h1 σ G H _ s fun v G1 H1 n1 q1 => ?_
  cases q1 with
  | lst hq hd =>
    rw [hd.bools] at hq
    have hq' := n1.st.sub.seq hq
    exact ⟨.inl ⟨rfl, _, hq'⟩, ⟨_, bs, b, rfl, rfl, hq', h _ G1 H1 n1 (.int _)⟩⟩
end
end DL

/-! DLO: a call whose first argument is a new list that the callee may change. -/
namespace DL
open PySem PySem.Spec PyProof.Rows L2
section
variable {K : PySem.W.Frag} {G H G' H' : Hp} {σ : L2.St} {ρ as' : List Den} {args : List Arg} {vs : List V} {p : Addr} {us : List V} {ds : List PyData}
theorem noOwn : ∀ {args : List Arg} {k : Nat}, noSl args = true → isOwn (args.map (argDen ρ))[k]? = false
  | [], k, _ => by simp [isOwn]
  | .sl _ :: _, _, h => by cases h
  | .d x :: as, 0, h => rfl
  | .v x :: as, 0, h => rfl
  | .d x :: as, k + 1, h => noOwn (args := as) (k := k) h
  | .v x :: as, k + 1, h => noOwn (args := as) (k := k) h
theorem ownO {a : Addr} (hn : noSl args = true) (o : OwnA ((V.ref p :: vs).map some) (.own true ds :: args.map (argDen ρ)) a) : a = p := by
  obtain ⟨k, h1, h2⟩ := o
  cases k with
  | zero => cases h2; rfl
  | succ k =>
    have h1' : isOwn (args.map (argDen ρ))[k]? = true := h1
    rw [noOwn hn] at h1'
    cases h1'
theorem StD.handedO (s : StD K G H σ ρ) (ha : ArgsOk K G σ vs args) (hn : noSl args = true) (hg : G p = none) (hh : H p = some (.lst us)) (hd : DpAll K G us ds) : StD K G H ((V.ref p :: vs).map some) (.own true ds :: args.map (argDen ρ)) := by
  refine ⟨s.sub, by simp [ha.len], fun i den e => ?_, fun i j a h1 h2 => ?_⟩
  · cases i with
    | zero =>
      cases e
      exact ⟨p, us, rfl, hg, hh, hd⟩
    | succ i =>
      have e' : (args.map (argDen ρ))[i]? = some den := e
      obtain ⟨x, hx, hde⟩ := argGet e'
      subst hde
      obtain ⟨v, hv, hq⟩ := ha.get hx
      show SlotOk K G H (vs.map some)[i]? _
      rw [List.getElem?_map, hv]
      cases x with
      | d y => exact ⟨v, rfl, hq⟩
      | v w => exact congrArg (fun z => some (some z)) hq
      | sl j => exact absurd hx (noSl_get hn)
  · have key : ∀ {i : Nat}, Own ((V.ref p :: vs).map some) (.own true ds :: args.map (argDen ρ)) i a → i = 0 := fun {i} h => by
      cases i with
      | zero => rfl
      | succ i =>
        have h' : isOwn (args.map (argDen ρ))[i]? = true := h.1
        rw [noOwn hn] at h'
        cases h'
    rw [key h1, key h2]
theorem calledO (s : StD K G H σ ρ) (hn : noSl args = true) (np : ¬ OwnA σ ρ p) (hh : H p = some (.lst us)) (n : Nxt K G H ((V.ref p :: vs).map some) (.own true ds :: args.map (argDen ρ)) G' H' ((V.ref p :: vs).map some) as') : Stp G H (fun a => a = p) G' H' ∧ StD K G' H' σ ρ := by
  have st : Stp G H (fun a => a = p) G' H' := n.stp.mono fun a o => ownO hn o
  refine ⟨st, n.st.sub, s.len, fun i den e => (s.at_ i den e).keep st (fun a hx ho z => ?_) (fun a z => ?_), s.inj⟩
  · subst z
    exact np ⟨i, by rw [e]; exact ho, hx⟩
  · subst z
    exact ⟨us, hh⟩
end
section
variable {X : Cx} {ρ ρ' ρ1 ρ2 : List Den} {pos : Pos} {W : WX}
/-- f([..], e, ..): the list is the callee's -/
theorem Ev.callO {R : List Den → Out → Prop} {k : Nat} {f : Addr} {fd : FuncData} {ps : List Str} {x : Str} {p : Pos} {e : Expr} {es : List Expr} {args : List Arg} {ds : List PyData} {d : PyData} {as' : List Den}
    (F : FnG X.prog X.w X.K X.mg X.base k f fd ps (spD X.K R)) (hr : Rm k X.A) (hg : Gl X x) (hm : X.mg x = some (.ref f)) (hk : PySem.W.keepIn X.K (.ref f) = true) (hb : Binds X.K fd ps [])
    (h1 : EvO X ρ e ds ρ1) (ha : EvA X ρ1 es args ρ2) (hn : noSl args = true) (hR : R (.own true ds :: args.map (argDen ρ2)) (.ret d as'))
    (hdb : (x == ("__debug__" : Str)) = false := by decide) (he : starEach (e :: es) X.env = (false, eval e X.env) :: starEach es X.env := by rfl) (hpl : (backTo pos (starEach es X.env)).any (·.1) = false := by rfl) :
    Ev X ρ (.Call (.Name x p) (e :: es) [] pos) d ρ2 := by
  obtain ⟨u, hu, g1⟩ := h1
  obtain ⟨t, ht, g2⟩ := ha
  refine ⟨_, pe_go (E := fun _ => E0) F hr hg hm hk hb (fun _ => passNo) (pa_cons hu ht he) hdb he hpl, fun σ G H Q s h => ?_⟩
  refine g1 σ G H _ s fun q us G1 H1 n1 hq0 hgq ho hHq hd => ?_
  refine g2 σ G1 H1 _ n1.st fun vs G2 H2 n2 q2 => ?_
  have hH2 : H2 q = some (.lst us) := n2.stp.kept q _ hHq ho
  have hG2 : G2 q = none := by
    cases eg : G2 q with
    | none => rfl
    | some o =>
      rcases n2.stp.fresh q hgq (by rw [eg]; simp) with z | z
      · rw [hHq] at z; cases z
      · exact absurd z ho
  have ho2 : ¬ OwnA σ ρ2 q := fun z => by
    rcases n2.own q z with z | z
    · exact ho z
    · rw [hHq] at z; cases z
  have hd2 : DpAll X.K G2 us ds := DpAll_mono n2.stp.gsub _ _ hd
  show spD X.K R (.ref q :: vs) H2 Q E0
  refine ⟨_, _, G2, hR, n2.st.handedO q2 hn hG2 hH2 hd2, fun v G' H' n qv => ?_⟩
  obtain ⟨st, sd⟩ := calledO n2.st hn ho2 hH2 n
  have n12 := n1.trans n2
  refine h v G' H' ⟨n12.stp.trans st fun a e => .inr (e ▸ hq0), sd, fun a o => ?_, n12.fix⟩ qv
  exact n12.own a o
end
end DL

/-! K2A: the defs of law_k02, first part. -/
namespace DL
open PySem PySem.Spec PyProof.Rows L2
section
variable {X : Cx} {ρ ρ' ρ1 ρ2 : List Den} {pos : Pos} {K : PySem.W.Frag} {W : WX}
/-- the name that stands in the slot i -/
theorem Ev.nm {x : Str} {d : PyData} (i : Nat) (hi : ρ[i]? = some (.d d) := by rfl) (hN : X.N[i]? = some x := by rfl) (hv : Vis X.env.scope x := by first | exact Or.inl rfl | exact Or.inr (Or.inl rfl) | exact Or.inr (Or.inr rfl)) (hd : (x == ("__debug__" : Str)) = false := by decide)
    (hcd : (x == ("__classdict__" : Str)) = false := by decide) : Ev X ρ (.Name x pos) d ρ := .name i hi hN hv hd hcd
theorem EvG.nm {x : Str} {d : PyData} (i : Nat) (hN : X.N.Nodup := by decide) (hf : isFix ρ[i]? = false := by rfl) (hi : X.N[i]? = some x := by rfl) (hx : Loc X.env.scope x := by first | exact Or.inl rfl | exact Or.inr rfl)
    (hfn : X.fn x = true ∨ X.env.scope.names.lookup x = some .local := by first | exact .inl rfl | exact .inr rfl) : EvG X ρ (.Name x pos) d (ρ.set i (.d d)) [i] := .name i hf hN hi hx hfn
def Agr (vs : List Nat) (ρ2 ρa : List Den) : Prop := ρ2.length = ρa.length ∧ ∀ k, k ∉ vs → ρ2[k]? = ρa[k]?
theorem Agr.refl {vs : List Nat} : Agr vs ρ ρ := ⟨rfl, fun _ _ => rfl⟩
theorem Agr.set {vs : List Nat} {i : Nat} {d : Den} (h : Agr vs ρ ρ') (hi : i ∈ vs) : Agr vs (ρ.set i d) ρ' := ⟨by rw [List.length_set]; exact h.1, fun k hk => by
  rw [List.getElem?_set_ne (fun (e : i = k) => hk (e ▸ hi))]
  exact h.2 k hk⟩
/-- a turn that changes nothing but the block's own slots -/
theorem LcT.pure {scope : Scope} {vs ws : List Nat} {ρa : List Den} {tg elt : Expr} {d y : PyData} (hg : ∀ Y, Blk X scope Y → EvG Y ρa tg d ρ2 ws) (hws : ∀ k ∈ ws, k ∈ vs) (ha : Agr vs ρ2 ρa) (he : ∀ Y, Blk X scope Y → Ev Y ρ2 elt y ρ2) :
    LcT X scope vs ρa tg elt [] d (some y) ρa := ⟨ρ2, ws, hg, hws, ha.1, fun _ _ => .nil, ρ2, he, ha.2⟩
theorem rel_at {scope : Scope} {env : Env} {k : NameKind} (hk : (k == .free) = false) : ∀ {names : List (Str × NameKind)} {x : Str}, names.lookup x = some k →
    (names.map fun (n, k) => if (k == NameKind.free && env.scope.kind == .function && env.kindOf n == some .cell) then (n, NameKind.cell) else (n, k)).lookup x = some k
  | [], _, h => by simp at h
  | (n, j) :: r, x, h => by
    have ih := @rel_at scope env k hk r x
    rw [List.map_cons]
    cases hx : x == n with
    | true =>
      simp only [List.lookup_cons, hx] at h
      cases h
      simp only [hk, Bool.false_and, Bool.false_eq_true, if_false, List.lookup_cons, hx]
    | false =>
      simp only [List.lookup_cons, hx] at h
      have h2 := ih h
      show List.lookup x ((if (j == NameKind.free && env.scope.kind == .function && env.kindOf n == some .cell) = true then (n, NameKind.cell) else (n, j)) :: _) = _
      split
      · simp only [List.lookup_cons, hx]
        exact h2
      · simp only [List.lookup_cons, hx]
        exact h2
theorem loc_rel {scope : Scope} {env : Env} {x : Str} (h : Loc scope x) : Loc (relabel scope env) x := by
  rcases h with h | h
  · exact .inl (lookup_relabel_local h)
  · exact .inr (rel_at (scope := scope) rfl h)
theorem fn_rel {scope : Scope} {env : Env} {x : Str} (h : Loc scope x) : (scope.names.lookup x == some .cell) = true ∨ (relabel scope env).names.lookup x = some .local := by
  rcases h with h | h
  · exact .inr (lookup_relabel_local h)
  · exact .inl (by rw [h]; rfl)
/-- .. with one name for a target, in the slot i -/
theorem LcT.p1 {scope : Scope} {vs : List Nat} {ρa : List Den} {x : Str} {tp : Pos} {elt : Expr} {d y : PyData} (i : Nat) (hN : X.N.Nodup) (he : ∀ Y, Blk X scope Y → Ev Y (ρa.set i (.d d)) elt y (ρa.set i (.d d)))
    (hi : i ∈ vs := by decide) (hNi : X.N[i]? = some x := by rfl) (hl : Loc scope x := by first | exact Or.inl rfl | exact Or.inr rfl) (hf : isFix ρa[i]? = false := by rfl) : LcT X scope vs ρa (.Name x tp) elt [] d (some y) ρa :=
  .pure (ws := [i]) (fun Y hY => by
    obtain ⟨_, _, _, _, _, rfl⟩ := hY
    exact .name i hf hN hNi (loc_rel hl) (fn_rel hl)) (by simpa using hi) (Agr.set .refl hi) he
theorem EvG.two {x1 x2 : Str} {p1 p2 tp : Pos} {kk : Nat} {d1 d2 : PyData} (i j : Nat) (hc : X.calm = true) (hN : X.N.Nodup) (h1 : X.N[i]? = some x1) (h2 : X.N[j]? = some x2) (l1 : Loc X.env.scope x1) (l2 : Loc X.env.scope x2)
    (f1 : X.fn x1 = true ∨ X.env.scope.names.lookup x1 = some .local) (f2 : X.fn x2 = true ∨ X.env.scope.names.lookup x2 = some .local) (hf1 : isFix ρ[i]? = false) (hf2 : isFix (ρ.set i (.d d1))[j]? = false) :
    EvG X ρ (.Tuple [.Name x1 p1, .Name x2 p2] kk tp) (.tuple [d1, d2]) ((ρ.set i (.d d1)).set j (.d d2)) [i, j] :=
  EvG.tup hc (EvGs.cons (.name i hf1 hN h1 l1 f1) (EvGs.cons (.name j hf2 hN h2 l2 f2) EvGs.nil))
theorem LcT.p2 {scope : Scope} {vs : List Nat} {ρa : List Den} {x1 x2 : Str} {q1 q2 tp : Pos} {kk : Nat} {elt : Expr} {d1 d2 y : PyData} (i j : Nat) (hc : X.calm = true) (hN : X.N.Nodup) (he : ∀ Y, Blk X scope Y → Ev Y ((ρa.set i (.d d1)).set j (.d d2)) elt y ((ρa.set i (.d d1)).set j (.d d2)))
    (hi : i ∈ vs := by decide) (hj : j ∈ vs := by decide) (h1 : X.N[i]? = some x1 := by rfl) (h2 : X.N[j]? = some x2 := by rfl) (l1 : Loc scope x1 := by first | exact Or.inl rfl | exact Or.inr rfl) (l2 : Loc scope x2 := by first | exact Or.inl rfl | exact Or.inr rfl)
    (hf1 : isFix ρa[i]? = false := by rfl) (hf2 : isFix (ρa.set i (.d d1))[j]? = false := by rfl) : LcT X scope vs ρa (.Tuple [.Name x1 q1, .Name x2 q2] kk tp) elt [] (.tuple [d1, d2]) (some y) ρa :=
  .pure (ws := [i, j]) (fun Y hY => by
    obtain ⟨_, _, _, _, _, rfl⟩ := hY
    exact .two i j hc hN h1 h2 (loc_rel l1) (loc_rel l2) (fn_rel l1) (fn_rel l2) hf1 hf2) (by
      intro k hk
      simp only [List.mem_cons, List.not_mem_nil, or_false] at hk
      rcases hk with rfl | rfl
      · exact hi
      · exact hj) (Agr.set (Agr.set .refl hi) hj) he
def noKnB (ρ : List Den) (vs : List Nat) : Bool := vs.all fun v => match ρ[v]? with
  | some .un => true
  | none => true
  | _ => false
theorem NoKn.of {vs : List Nat} (h : noKnB ρ vs = true := by rfl) : NoKn ρ vs := fun v hv => by
  have := List.all_eq_true.mp h v hv
  split at this
  · exact .inl (by assumption)
  · exact .inr (by assumption)
  · cases this
/-- a def of the text, callable -/
structure Cl (P : Program) (w : World) (K : PySem.W.Frag) (mg : Str → Option Value) (base : Heap) (k : Nat) (x : Str) (ps : List Str) (R : List Den → Out → Prop) : Prop where
  ex : ∃ f fd, FnG P w K mg base k f fd ps (spD K R) ∧ mg x = some (.ref f) ∧ PySem.W.keepIn K (.ref f) = true ∧ Binds K fd ps [] ∧ ∃ oc od osl, K.lookup f = some ⟨oc, od, .func fd, osl⟩
structure Def (K : PySem.W.Frag) (mg : Str → Option Value) (x : Str) (st : Stmt) (ps : List Str) : Prop where
  ex : ∃ f fd, Fun K x x st f fd ∧ mg x = some (.ref f) ∧ Binds K fd ps []
theorem Cl.of {P : Program} {w : World} {K : PySem.W.Frag} {mg : Str → Option Value} {base : Heap} {x : Str} {st : Stmt} {N ps : List Str} {k : Nat} {R : List Den → Out → Prop} (D : Def K mg x st ps) (S : FnScope N ps (defScope st)) (hn : ps.length ≤ N.length)
    (hR : ∀ as o, R as o → as.length = ps.length ∧ as.all argGood = true)
    (hb : ∀ (X : Cx) (W : WX), (∃ (f : Addr) (cdv : Value) (A : Around) (outer : List Env) (s : Shared) (H : Hp) (E : XK), X = cxOf (L2.CX P w) P w K mg base N x (defScope st) f cdv A outer s H E) → Rm k X.A → Takes X W → PassesOwn (model X.prog X.w) X.A X.env X.xe → ∀ as o, R as o →
      ∃ out, toF as out = some o ∧ Ex X W (as ++ unds (N.length - as.length)) (defBody st) out) : Cl P w K mg base (k + 1) x ps R := by
  obtain ⟨f, fd, F, g, b⟩ := D.ex
  obtain ⟨oc, od, kV, doc, pm, an, cdv, ct, osl, _, lk, _⟩ := F.ex
  exact ⟨f, fd, fn_ok F S hn hR (fun cdv A outer s H E hr tk as o h => hb _ _ ⟨f, cdv, A, outer, s, H, E, rfl⟩ hr tk (passes_of rfl) as o h), g, F.kp, b, oc, od, osl, lk⟩
theorem Ev.cl {R : List Den → Out → Prop} {k k' : Nat} {ps : List Str} {x : Str} {p : Pos} {e : Expr} {es : List Expr} {args : List Arg} {d : PyData} {as' : List Den}
    (C : Cl X.prog X.w X.K X.mg X.base k x ps R) (hr : Rm k' X.A) (hk : k ≤ k') (hg : Gl X x) (ha : EvA X ρ (e :: es) args ρ1) (hR : R (args.map (argDen ρ1)) (.ret d as')) (wb : WB ρ1 args as' ρ2)
    (hdb : (x == ("__debug__" : Str)) = false := by decide) (he : starEach (e :: es) X.env = (false, eval e X.env) :: starEach es X.env := by rfl) (hpl : (backTo pos (starEach es X.env)).any (·.1) = false := by rfl) :
    Ev X ρ (.Call (.Name x p) (e :: es) [] pos) d ρ2 := by
  obtain ⟨f, fd, F, g, kp, b, _⟩ := C.ex
  exact .call F (hr.mono hk) hg g kp b ha hR wb hdb he hpl
theorem ES.clX {R : List Den → Out → Prop} {k k' : Nat} {c : Addr} {ps : List Str} {x : Str} {p pos' : Pos} {e : Expr} {es : List Expr} {args : List Arg} {ks : List Str} {ys : List PyData} {as' : List Den}
    (C : Cl X.prog X.w X.K X.mg X.base k x ps R) (hr : Rm k' X.A) (hk : k ≤ k') (hg : Gl X x) (tk : Takes X W)
    (ha : EvA X ρ (e :: es) args ρ1) (hR : R (args.map (argDen ρ1)) (.exc c ks ys as')) (wb : WB ρ1 args as' ρ2)
    (hdb : (x == ("__debug__" : Str)) = false := by decide) (he : starEach (e :: es) X.env = (false, eval e X.env) :: starEach es X.env := by rfl) (hpl : (backTo pos' (starEach es X.env)).any (·.1) = false := by rfl)
    (hs : swapsWith (.Call (.Name x p) (e :: es) [] pos') none pos.line X.env = pure false := by rfl) :
    ES X W ρ (.Expr (.Call (.Name x p) (e :: es) [] pos') pos) (.exc c ks ys ρ2) := by
  obtain ⟨f, fd, F, g, kp, b, _⟩ := C.ex
  exact .callX F (hr.mono hk) hg g kp b tk ha hR wb hdb he hpl hs
end
end DL
namespace K2
open PySem PySem.Spec PyProof.Rows L2 DL
def top (i : Nat) : Stmt := PySem.Challenge.pw_quadsets_k02_maps_chained.main.body.getD i (.Pass ⟨0, 0, 0, 0⟩)
def encV (v : List Int) : PyData := .tuple (v.map .int)
structure Mp where
  rows : List (List Int)
  off : List Int
  hv : Nat
def encR (rows : List (List Int)) : PyData := .tuple (rows.map encV)
def encM (m : Mp) : PyData := .tuple [encR m.rows, encV m.off, .int m.hv]
structure Bt (mg : Str → Option Value) : Prop where
  len : mg "len" = none
  tuple : mg "tuple" = none
  sum : mg "sum" = none
  zip : mg "zip" = none
  range : mg "range" = none
  abs : mg "abs" = none
  int : mg "int" = none
  repr : mg "repr" = none
  list : mg "list" = none
  isi : mg "isinstance" = none
  ve : mg "ValueError" = none
section
variable {P : Program} {w : World} {K : PySem.W.Frag} {mg : Str → Option Value} {base : Heap} {cB fB cM fM : Addr}
theorem small {n : Nat} (h : (decide (1 ≤ n) && decide (n ≤ 3)) = true) : n ≤ 1000000 := by
  simp only [Bool.and_eq_true, decide_eq_true_eq] at h
  omega
def okLen (n : Nat) : Bool := decide (1 ≤ n) && decide (n ≤ 3)
/-- check_length(cell) -/
inductive RCheck (cB : Addr) : List Den → Out → Prop
  | ok {ds : List PyData} : okLen ds.length = true → RCheck cB [.d (.tuple ds)] (.ret .none [.d (.tuple ds)])
  | bad {ds : List PyData} : okLen ds.length = false → RCheck cB [.d (.tuple ds)] (.exc cB ["length"] [.int ds.length] [.d (.tuple ds)])
theorem scCheck : FnScope ["cell"] ["cell"] (defScope (top 7)) := ⟨rfl, rfl, rfl, by decide +kernel, rfl, by decide +kernel, by decide +kernel⟩
theorem ok_check (D : Def K mg "check_length" (top 7) ["cell"]) (B : Bt mg) (EB : PySem.DLX.ErrTxt P K mg "BadCell" "length" cB fB) : Cl P w K mg base 2 "check_length" ["cell"] (RCheck cB) := by
  refine .of (N := ["cell"]) D scCheck (by decide) (fun as o h => by cases h <;> exact ⟨rfl, rfl⟩) ?_
  rintro X W ⟨f, cdv, A, outer, s, H, E, rfl⟩ hr tk po as o h
  have e : ∀ ds : List PyData, (decide ((1 : Int) ≤ ds.length) && decide ((ds.length : Int) ≤ 3)) = okLen ds.length := fun ds => by
    unfold okLen
    congr 1 <;> exact decide_eq_decide.mpr (by omega)
  cases h with
  | ok hk =>
    refine ⟨.nx _, rfl, Ex.one (ES.skip (EvT.not (EvT.leLe .int (Ev.len (k := false) rfl rfl B.len (.nm 0)) .int)) ?_)⟩
    rw [e, hk]
    rfl
  | bad hk =>
    refine ⟨.exc _ _ _ _, rfl, Ex.one (ES.ifT (EvT.not (EvT.leLe .int (Ev.len (k := false) rfl rfl B.len (.nm 0)) .int)) ?_ (Ex.one (ES.raise rfl EB hr tk (Ev.len (k := false) rfl rfl B.len (.nm 0)) rfl)))⟩
    rw [e, hk]
    rfl
/-- halved(cell) -/
inductive RHalved : List Den → Out → Prop
  | ok {v : List Int} : okLen v.length = true → RHalved [.d (encV v)] (.ret (encV (v.map (· / 2))) [.d (encV v)])
theorem scHalved : FnScope ["cell", "x"] ["cell"] (defScope (top 8)) := ⟨rfl, rfl, rfl, by decide +kernel, rfl, by decide +kernel, by decide +kernel⟩
theorem ok_halved (D : Def K mg "halved" (top 8) ["cell"]) (B : Bt mg) (C1 : Cl P w K mg base 2 "check_length" ["cell"] (RCheck cB)) : Cl P w K mg base 3 "halved" ["cell"] RHalved := by
  refine .of (N := ["cell", "x"]) D scHalved (by decide) (fun as o h => by cases h <;> exact ⟨rfl, rfl⟩) ?_
  rintro X W ⟨f, cdv, A, outer, s, H, E, rfl⟩ hr tk po as o h
  cases h with | @ok v hv => ?_
  refine ⟨.ret (encV (v.map (· / 2))) _, rfl, Ex.cons (ES.expr (Ev.cl C1 hr (Nat.le_refl _) rfl (EvA.cons (.nm 0) .nil) (.ok (by rw [List.length_map]; exact hv)) (.none rfl)))
    (Ex.one (ES.ret (Ev.cast (Ev.tupO rfl rfl B.tuple (LcC.ev (own := [("x", 1)]) (LcC.map v (fun x => .int (x / 2)) (EvI.tup (.nm 0)) ?_ ?_ ?_) rfl scHalved.nd (blkOk_by rfl))) (by simp [encV]))))⟩
  · exact .of
  · exact small hv
  · intro x hx
    refine .p1 1 scHalved.nd ?_
    rintro Y ⟨_, _, _, _, _, rfl⟩
    exact .fdiv (.nm 1) .int ⟨by decide, by decide +kernel⟩
theorem _root_.DL.EvI.cast {X : Cx} {ρ ρ' : List Den} {tg e : Expr} {ds es : List PyData} (h : EvI X ρ tg e ds ρ') (q : ds = es) : EvI X ρ tg e es ρ' := q ▸ h
/-! ### sizes -/
def Sm (x : Int) : Prop := x.natAbs < 2 ^ 1900
theorem Sm.log {x : Int} (h : Sm x) : x.natAbs.log2 < 1900 := by
  by_cases h0 : x.natAbs = 0
  · rw [h0]
    decide +kernel
  · exact (Nat.log2_lt h0).mpr h
theorem Sm.mul {a b : Int} (ha : Sm a) (hb : Sm b) : CMulW a b := by
  have h1 := ha.log
  have h2 := hb.log
  unfold CMulW
  omega
def SmV (v : List Int) : Prop := v.length ≤ 1000 ∧ ∀ x ∈ v, Sm x
/-! ### dot -/
def dot (r v : List Int) : Int := ((r.zip v).map fun p => p.1 * p.2).sum
def pairD (p : Int × Int) : PyData := .tuple [.int p.1, .int p.2]
theorem zip_pair : ∀ (r v : List Int), List.zipWith (fun d e => PyData.tuple [d, e]) (r.map .int) (v.map .int) = (r.zip v).map pairD
  | [], _ => rfl
  | _ :: _, [] => rfl
  | a :: r, x :: v => by
    simp only [List.map_cons, List.zipWith_cons_cons, List.zip_cons_cons]
    rw [zip_pair r v]
    rfl
inductive RDot : List Den → Out → Prop
  | ok {r v : List Int} : SmV r → SmV v → RDot [.d (encV r), .d (encV v)] (.ret (.int (dot r v)) [.d (encV r), .d (encV v)])
theorem scDot : FnScope ["row", "vector", "a", "x"] ["row", "vector"] (defScope (top 10)) := ⟨rfl, rfl, rfl, by decide +kernel, rfl, by decide +kernel, by decide +kernel⟩
theorem ok_dot (D : Def K mg "dot" (top 10) ["row", "vector"]) (B : Bt mg) : Cl P w K mg base 1 "dot" ["row", "vector"] RDot := by
  refine .of (N := ["row", "vector", "a", "x"]) D scDot (by decide) (fun as o h => by cases h <;> exact ⟨rfl, rfl⟩) ?_
  rintro X W ⟨f, cdv, A, outer, s, H, E, rfl⟩ hr tk po as o h
  cases h with | @ok r v h1 h2 => ?_
  have e : (.list ((r.zip v).map fun p => PyData.int (p.1 * p.2)) : PyData) = .list (((r.zip v).map fun p => p.1 * p.2).map .int) := by simp
  refine ⟨.ret _ _, rfl, Ex.one (ES.ret (Ev.sum rfl rfl rfl B.sum (Ev.cast (EvO.ev (LcC.ev (own := [("a", 2), ("x", 3)]) (LcC.map (r.zip v) (fun p => .int (p.1 * p.2)) (EvI.cast (EvI.zip2 (k1 := false) (k2 := false) rfl B.zip (.nm 0) (.nm 1)) (zip_pair r v)) ?_ ?_ ?_) rfl scDot.nd (blkOk_by rfl))) e)))⟩
  · exact .of
  · have := h1.1
    simp only [List.length_zip]
    omega
  · intro p hp
    have := List.of_mem_zip hp
    refine .p2 2 3 rfl scDot.nd ?_
    rintro Y ⟨_, _, _, _, _, rfl⟩
    exact .mul (.nm 2) (.nm 3) (Sm.mul (h1.2 _ this.1) (h2.2 _ this.2))
/-! ### column_of -/
def col (rows : List (List Int)) (j : Nat) : List Int := rows.map fun r => r.getD j 0
inductive RCol : List Den → Out → Prop
  | ok {rows : List (List Int)} {j : Nat} : rows.length ≤ 1000 → (∀ r ∈ rows, j < r.length) → RCol [.d (encR rows), .d (.int j)] (.ret (encV (col rows j)) [.d (encR rows), .d (.int j)])
theorem scCol : FnScope ["rows", "j", "row"] ["rows", "j"] (defScope (top 11)) := ⟨rfl, rfl, rfl, by decide +kernel, rfl, by decide +kernel, by decide +kernel⟩
theorem ok_col (D : Def K mg "column_of" (top 11) ["rows", "j"]) (B : Bt mg) : Cl P w K mg base 1 "column_of" ["rows", "j"] RCol := by
  refine .of (N := ["rows", "j", "row"]) D scCol (by decide) (fun as o h => by cases h <;> exact ⟨rfl, rfl⟩) ?_
  rintro X W ⟨f, cdv, A, outer, s, H, E, rfl⟩ hr tk po as o h
  cases h with | @ok rows j h1 h2 => ?_
  refine ⟨.ret (encV (col rows j)) _, rfl, Ex.one (ES.ret (Ev.cast (Ev.tupO rfl rfl B.tuple (LcC.ev (own := [("row", 2)]) (LcC.map rows (fun r => .int (r.getD j 0)) (EvI.tup (.nm 0)) ?_ ?_ ?_) rfl scCol.nd (blkOk_by rfl))) (by simp [encV, col])))⟩
  · exact .of
  · omega
  · intro r hr'
    have hj := h2 r hr'
    refine .p1 2 scCol.nd ?_
    rintro Y ⟨_, _, _, _, _, rfl⟩
    refine .ixT (.nm 2) (.nm 1) (atI_at ?_)
    simp [List.getD, List.getElem?_eq_getElem hj]
end
end K2

namespace DL
open PySem PySem.Spec PyProof.Rows L2
section
variable {X : Cx} {ρ ρ' ρ1 ρ2 : List Den} {pos : Pos} {K : PySem.W.Frag} {W : WX}
theorem ES.st {x : Str} {e : Expr} {pos' : Pos} {d : PyData} (i : Nat) (hN : X.N.Nodup) (he : Ev X ρ e d ρ1) (hf : isFix ρ1[i]? = false := by rfl) (hi : X.N[i]? = some x := by rfl) (hx : Loc X.env.scope x := by first | exact Or.inl rfl | exact Or.inr rfl) (hs : swapsWith e (some (.Name x pos')) pos.line X.env = pure false := by rfl)
    (hfn : X.fn x = true ∨ X.env.scope.names.lookup x = some .local := by first | exact .inl rfl | exact .inr rfl) : ES X W ρ (.Assign [.Name x pos'] e pos) (.nx (ρ1.set i (.d d))) := .set i he hf hN hi hx hs hfn
theorem ES.stO {x : Str} {e : Expr} {pos' : Pos} {ds : List PyData} (i : Nat) (hN : X.N.Nodup) (he : EvO X ρ e ds ρ1) (hf : isFix ρ1[i]? = false := by rfl) (hi : X.N[i]? = some x := by rfl) (hx : Loc X.env.scope x := by first | exact Or.inl rfl | exact Or.inr rfl) (hs : swapsWith e (some (.Name x pos')) pos.line X.env = pure false := by rfl)
    (hfn : X.fn x = true ∨ X.env.scope.names.lookup x = some .local := by first | exact .inl rfl | exact .inr rfl) : ES X W ρ (.Assign [.Name x pos'] e pos) (.nx (ρ1.set i (.own false ds))) := .setO i he hf hN hi hx hs hfn
theorem EvG.three {x1 x2 x3 : Str} {p1 p2 p3 tp : Pos} {kk : Nat} {d1 d2 d3 : PyData} (i j k : Nat) (hc : X.calm = true) (hN : X.N.Nodup) (h1 : X.N[i]? = some x1 := by rfl) (h2 : X.N[j]? = some x2 := by rfl) (h3 : X.N[k]? = some x3 := by rfl)
    (l1 : Loc X.env.scope x1 := by first | exact Or.inl rfl | exact Or.inr rfl) (l2 : Loc X.env.scope x2 := by first | exact Or.inl rfl | exact Or.inr rfl) (l3 : Loc X.env.scope x3 := by first | exact Or.inl rfl | exact Or.inr rfl)
    (f1 : X.fn x1 = true ∨ X.env.scope.names.lookup x1 = some .local := by first | exact .inl rfl | exact .inr rfl) (f2 : X.fn x2 = true ∨ X.env.scope.names.lookup x2 = some .local := by first | exact .inl rfl | exact .inr rfl) (f3 : X.fn x3 = true ∨ X.env.scope.names.lookup x3 = some .local := by first | exact .inl rfl | exact .inr rfl)
    (hf1 : isFix ρ[i]? = false := by rfl) (hf2 : isFix (ρ.set i (.d d1))[j]? = false := by rfl) (hf3 : isFix ((ρ.set i (.d d1)).set j (.d d2))[k]? = false := by rfl) :
    EvG X ρ (.Tuple [.Name x1 p1, .Name x2 p2, .Name x3 p3] kk tp) (.tuple [d1, d2, d3]) (((ρ.set i (.d d1)).set j (.d d2)).set k (.d d3)) [i, j, k] :=
  EvG.tup hc (EvGs.cons (.name i hf1 hN h1 l1 f1) (EvGs.cons (.name j hf2 hN h2 l2 f2) (EvGs.cons (.name k hf3 hN h3 l3 f3) EvGs.nil)))
theorem ES.cast {st : Stmt} {o o' : Out} (h : ES X W ρ st o) (e : o = o') : ES X W ρ st o' := e ▸ h
theorem Ex.cast {st : List Stmt} {o o' : Out} (h : Ex X W ρ st o) (e : o = o') : Ex X W ρ st o' := e ▸ h
theorem Goes.of (h : WkL ρ ρ1) : Goes K (.nx ρ) ρ1 := .nxW (.of h)
theorem loopB {α : Type} {xs : List α} {g : α → PyData} {i : Nat} {d : PyData} (h : (xs.map g)[i]? = some d) : ∃ x, xs[i]? = some x ∧ d = g x := by
  rw [List.getElem?_map] at h
  cases e : xs[i]? with
  | none => rw [e] at h; cases h
  | some x => rw [e] at h; exact ⟨x, rfl, (Option.some.inj h).symm⟩
/-- for x in ..: -/
theorem ES.loop1 {α : Type} {x : Str} {p : Pos} {iter : Expr} {body : List Stmt} {g : α → PyData} {ρ3 : List Den} (t : Nat) (xs : List α) (S : Nat → List Den) (hN : X.N.Nodup) (hc : X.calm = true) (po : PassesOwn (model X.prog X.w) X.A X.env X.xe)
    (hi : EvI X ρ (.Name x p) iter (xs.map g) ρ1) (h0 : WkL ρ1 (S 0)) (hb : ∀ i x, xs[i]? = some x → ∃ ρ4, Ex X W ((S i).set t (.d (g x))) body (.nx ρ4) ∧ WkL ρ4 (S (i + 1))) (hz : S xs.length = ρ3)
    (hf : ∀ i, isFix (S i)[t]? = false := by intro _; rfl) (hx : X.N[t]? = some x := by rfl) (hl : Loc X.env.scope x := by first | exact Or.inl rfl | exact Or.inr rfl)
    (hfn : X.fn x = true ∨ X.env.scope.names.lookup x = some .local := by first | exact .inl rfl | exact .inr rfl) (hs : ∀ x, foldedSetIterable iter X.env x = pure x := by intro _; rfl) : ES X W ρ (.For (.Name x p) iter body [] pos) (.nx ρ3) := by
  subst hz
  have e : S xs.length = S (xs.map g).length := by rw [List.length_map]
  rw [e]
  refine ES.for_ hi S (.of h0) (fun i d hd => ?_) hc po hs
  obtain ⟨y, hy, rfl⟩ := loopB hd
  obtain ⟨ρ4, h1, h2⟩ := hb i y hy
  exact ⟨_, _, _, .name t (hf i) hN hx hl hfn, h1, .of h2⟩
/-- for x, y in ..: -/
theorem ES.loop2 {α : Type} {x1 x2 : Str} {p1 p2 tp : Pos} {kk : Nat} {iter : Expr} {body : List Stmt} {g1 g2 : α → PyData} {ρ3 : List Den} (i1 i2 : Nat) (xs : List α) (S : Nat → List Den) (hN : X.N.Nodup) (hc : X.calm = true) (po : PassesOwn (model X.prog X.w) X.A X.env X.xe)
    (hi : EvI X ρ (.Tuple [.Name x1 p1, .Name x2 p2] kk tp) iter (xs.map fun x => .tuple [g1 x, g2 x]) ρ1) (h0 : WkL ρ1 (S 0)) (hb : ∀ i x, xs[i]? = some x → ∃ ρ4, Ex X W (((S i).set i1 (.d (g1 x))).set i2 (.d (g2 x))) body (.nx ρ4) ∧ WkL ρ4 (S (i + 1))) (hz : S xs.length = ρ3)
    (hf1 : ∀ i, isFix (S i)[i1]? = false := by intro _; rfl) (hf2 : ∀ i d, isFix ((S i).set i1 (.d d))[i2]? = false := by intro _ _; rfl) (hx1 : X.N[i1]? = some x1 := by rfl) (hl1 : Loc X.env.scope x1 := by first | exact Or.inl rfl | exact Or.inr rfl) (hx2 : X.N[i2]? = some x2 := by rfl) (hl2 : Loc X.env.scope x2 := by first | exact Or.inl rfl | exact Or.inr rfl)
    (hfn1 : X.fn x1 = true ∨ X.env.scope.names.lookup x1 = some .local := by first | exact .inl rfl | exact .inr rfl) (hfn2 : X.fn x2 = true ∨ X.env.scope.names.lookup x2 = some .local := by first | exact .inl rfl | exact .inr rfl) (hs : ∀ x, foldedSetIterable iter X.env x = pure x := by intro _; rfl) :
    ES X W ρ (.For (.Tuple [.Name x1 p1, .Name x2 p2] kk tp) iter body [] pos) (.nx ρ3) := by
  subst hz
  have e : S xs.length = S (xs.map fun x => PyData.tuple [g1 x, g2 x]).length := by rw [List.length_map]
  rw [e]
  refine ES.for_ hi S (.of h0) (fun i d hd => ?_) hc po hs
  obtain ⟨y, hy, rfl⟩ := loopB (g := fun x => PyData.tuple [g1 x, g2 x]) hd
  obtain ⟨ρ4, h1, h2⟩ := hb i y hy
  exact ⟨_, _, _, .two i1 i2 hc hN hx1 hx2 hl1 hl2 hfn1 hfn2 (hf1 i) (hf2 i _), h1, .of h2⟩
theorem EvG.three' {x1 x2 x3 : Str} {p1 p2 p3 tp : Pos} {kk : Nat} {d1 d2 d3 : PyData} (i j k : Nat) (hc : X.calm = true) (hN : X.N.Nodup) (h1 : X.N[i]? = some x1) (h2 : X.N[j]? = some x2) (h3 : X.N[k]? = some x3) (l1 : Loc X.env.scope x1) (l2 : Loc X.env.scope x2) (l3 : Loc X.env.scope x3)
    (f1 : X.fn x1 = true ∨ X.env.scope.names.lookup x1 = some .local) (f2 : X.fn x2 = true ∨ X.env.scope.names.lookup x2 = some .local) (f3 : X.fn x3 = true ∨ X.env.scope.names.lookup x3 = some .local) (hf1 : isFix ρ[i]? = false) (hf2 : isFix (ρ.set i (.d d1))[j]? = false) (hf3 : isFix ((ρ.set i (.d d1)).set j (.d d2))[k]? = false) :
    EvG X ρ (.Tuple [.Name x1 p1, .Name x2 p2, .Name x3 p3] kk tp) (.tuple [d1, d2, d3]) (((ρ.set i (.d d1)).set j (.d d2)).set k (.d d3)) [i, j, k] := .three i j k hc hN h1 h2 h3 l1 l2 l3 f1 f2 f3 hf1 hf2 hf3
/-- for x, y, z in ..: -/
theorem ES.loop3 {α : Type} {x1 x2 x3 : Str} {p1 p2 p3 tp : Pos} {kk : Nat} {iter : Expr} {body : List Stmt} {g1 g2 g3 : α → PyData} {ρ3 : List Den} (i1 i2 i3 : Nat) (xs : List α) (S : Nat → List Den) (hN : X.N.Nodup) (hc : X.calm = true) (po : PassesOwn (model X.prog X.w) X.A X.env X.xe)
    (hi : EvI X ρ (.Tuple [.Name x1 p1, .Name x2 p2, .Name x3 p3] kk tp) iter (xs.map fun x => .tuple [g1 x, g2 x, g3 x]) ρ1) (h0 : WkL ρ1 (S 0)) (hb : ∀ i x, xs[i]? = some x → ∃ ρ4, Ex X W ((((S i).set i1 (.d (g1 x))).set i2 (.d (g2 x))).set i3 (.d (g3 x))) body (.nx ρ4) ∧ WkL ρ4 (S (i + 1))) (hz : S xs.length = ρ3)
    (hf1 : ∀ i, isFix (S i)[i1]? = false := by intro _; rfl) (hf2 : ∀ i d, isFix ((S i).set i1 (.d d))[i2]? = false := by intro _ _; rfl) (hf3 : ∀ i d e, isFix (((S i).set i1 (.d d)).set i2 (.d e))[i3]? = false := by intro _ _ _; rfl) (hx1 : X.N[i1]? = some x1 := by rfl) (hl1 : Loc X.env.scope x1 := by first | exact Or.inl rfl | exact Or.inr rfl) (hx2 : X.N[i2]? = some x2 := by rfl) (hl2 : Loc X.env.scope x2 := by first | exact Or.inl rfl | exact Or.inr rfl) (hx3 : X.N[i3]? = some x3 := by rfl) (hl3 : Loc X.env.scope x3 := by first | exact Or.inl rfl | exact Or.inr rfl)
    (hfn1 : X.fn x1 = true ∨ X.env.scope.names.lookup x1 = some .local := by first | exact .inl rfl | exact .inr rfl) (hfn2 : X.fn x2 = true ∨ X.env.scope.names.lookup x2 = some .local := by first | exact .inl rfl | exact .inr rfl) (hfn3 : X.fn x3 = true ∨ X.env.scope.names.lookup x3 = some .local := by first | exact .inl rfl | exact .inr rfl) (hs : ∀ x, foldedSetIterable iter X.env x = pure x := by intro _; rfl) :
    ES X W ρ (.For (.Tuple [.Name x1 p1, .Name x2 p2, .Name x3 p3] kk tp) iter body [] pos) (.nx ρ3) := by
  subst hz
  have e : S xs.length = S (xs.map fun x => PyData.tuple [g1 x, g2 x, g3 x]).length := by rw [List.length_map]
  rw [e]
  refine ES.for_ hi S (.of h0) (fun i d hd => ?_) hc po hs
  obtain ⟨y, hy, rfl⟩ := loopB (g := fun x => PyData.tuple [g1 x, g2 x, g3 x]) hd
  obtain ⟨ρ4, h1, h2⟩ := hb i y hy
  exact ⟨_, _, _, .three i1 i2 i3 hc hN hx1 hx2 hx3 hl1 hl2 hl3 hfn1 hfn2 hfn3 (hf1 i) (hf2 i _) (hf3 i _ _), h1, .of h2⟩
theorem rangeD_map {n : Nat} : rangeD 0 ((n : Int)).toNat = (List.range n).map fun (i : Nat) => PyData.int (i : Int) := by
  unfold rangeD
  rw [Int.toNat_natCast]
  simp
/-- range(n) -/
theorem EvI.rng {tg a : Expr} {p : Pos} {n : Nat} (hg : Gl X "range") (hm : X.mg "range" = none) (ha : Ev X ρ a (.int (n : Int)) ρ') (hn : n ≤ 1000000) (hs : starEach [a] X.env = [(false, eval a X.env)] := by rfl) :
    EvI X ρ tg (.Call (.Name "range" p) [a] [] pos) ((List.range n).map fun (i : Nat) => PyData.int (i : Int)) ρ' := by
  rw [← rangeD_map]
  exact .range1 hg hm ha (by omega) (by omega) hs
theorem range_len {n : Nat} : (rangeD 0 ((n : Int)).toNat).length = n := by simp [rangeD]
end
end DL
namespace K2
open PySem PySem.Spec PyProof.Rows L2 DL
section
variable {P : Program} {w : World} {K : PySem.W.Frag} {mg : Str → Option Value} {base : Heap} {cB fB cM fM : Addr}
def act (m : Mp) (c : List Int) : List Int := (m.rows.zip m.off).map fun p => dot p.1 c + p.2
def halveN : Nat → List Int → List Int
  | 0, v => v
  | n + 1, v => (halveN n v).map (· / 2)
theorem halveN_len : ∀ (n : Nat) (v : List Int), (halveN n v).length = v.length
  | 0, _ => rfl
  | n + 1, v => by rw [halveN, List.length_map, halveN_len n v]
def applied (m : Mp) (c : List Int) : List Int := halveN m.hv (act m c)
/-- the shape: w columns, h rows -/
structure Wf (m : Mp) (w h : Nat) : Prop where
  rl : m.rows.length = h
  ol : m.off.length = h
  cl : ∀ r ∈ m.rows, r.length = w
  w1 : okLen w = true
  h1 : okLen h = true
/-- the sizes -/
structure Sz (k : Nat) (m : Mp) : Prop where
  r : ∀ r ∈ m.rows, ∀ x ∈ r, x.natAbs < 2 ^ k
  o : ∀ x ∈ m.off, x.natAbs < 2 ^ k
  hv : m.hv ≤ 100
theorem okLen_le {n : Nat} (h : okLen n = true) : 1 ≤ n ∧ n ≤ 3 := by
  unfold okLen at h
  simpa using h
theorem Wf.head {m : Mp} {w h : Nat} (W : Wf m w h) : ∃ r0 rs, m.rows = r0 :: rs ∧ r0.length = w := by
  have h1 := okLen_le W.h1
  have h2 := W.rl
  cases e : m.rows with
  | nil => rw [e] at h2; simp at h2; omega
  | cons r0 rs => exact ⟨r0, rs, rfl, W.cl r0 (by rw [e]; exact List.mem_cons_self)⟩
theorem Wf.act_len {m : Mp} {w h : Nat} (W : Wf m w h) (c : List Int) : (act m c).length = h := by
  unfold act
  rw [List.length_map, List.length_zip, W.rl, W.ol, Nat.min_self]
def rowD (p : List Int × Int) : PyData := .tuple [encV p.1, .int p.2]
theorem zip_row : ∀ (r : List (List Int)) (v : List Int), List.zipWith (fun d e => PyData.tuple [d, e]) (r.map encV) (v.map .int) = (r.zip v).map rowD
  | [], _ => rfl
  | _ :: _, [] => rfl
  | a :: r, x :: v => by
    simp only [List.map_cons, List.zipWith_cons_cons, List.zip_cons_cons]
    rw [zip_row r v]
    rfl
theorem Sm.of {k : Nat} {x : Int} (h : x.natAbs < 2 ^ k) (hk : k ≤ 1900 := by omega) : Sm x := Nat.lt_of_lt_of_le h (Nat.pow_le_pow_right (by decide) hk)
/-- rows that can be multiplied -/
theorem Sz.row {k : Nat} {m : Mp} {w h : Nat} (S : Sz k m) (W : Wf m w h) (hk : k ≤ 1900) {r : List Int} (hr : r ∈ m.rows) : SmV r := ⟨by have := W.cl r hr; have := okLen_le W.w1; omega, fun x hx => Sm.of (S.r r hr x hx) hk⟩
inductive RApplied (cB : Addr) : List Den → Out → Prop
  | ok {m : Mp} {c : List Int} {w h k : Nat} : Wf m w h → Sz k m → k ≤ 1900 → c.length = w → (∀ x ∈ c, Sm x) → RApplied cB [.d (encM m), .d (encV c)] (.ret (encV (applied m c)) [.d (encM m), .d (encV c)])
  | bad {m : Mp} {c : List Int} {w h : Nat} : Wf m w h → c.length ≠ w → RApplied cB [.d (encM m), .d (encV c)] (.exc cB ["length"] [.int c.length] [.d (encM m), .d (encV c)])
theorem scApplied : FnScope ["mapping", "cell", "rows", "offset", "halvings", "led", "_", "row", "shift"] ["mapping", "cell"] (defScope (top 12)) := ⟨rfl, rfl, rfl, by decide +kernel, rfl, by decide +kernel, by decide +kernel⟩
theorem ok_applied (D : Def K mg "applied" (top 12) ["mapping", "cell"]) (B : Bt mg) (EB : PySem.DLX.ErrTxt P K mg "BadCell" "length" cB fB) (C1 : Cl P w K mg base 1 "dot" ["row", "vector"] RDot) (C2 : Cl P w K mg base 3 "halved" ["cell"] RHalved) :
    Cl P w K mg base 4 "applied" ["mapping", "cell"] (RApplied cB) := by
  refine .of (N := ["mapping", "cell", "rows", "offset", "halvings", "led", "_", "row", "shift"]) D scApplied (by decide) (fun as o h => by cases h <;> exact ⟨rfl, rfl⟩) ?_
  rintro X W ⟨f, cdv, A, outer, s, H, E, rfl⟩ hr tk po as o h
  cases h with
  | @ok m c w h k Wm Sm0 hk hc hs =>
    obtain ⟨r0, rs, e0, l0⟩ := Wm.head
    have x0 : atI (m.rows.map encV) ((0 : Nat) : Int) = some (encV r0) := by rw [e0]; exact atI_at rfl
    refine ⟨.ret (encV (applied m c)) _, rfl, Ex.cons (ES.asg (.nm 0) (EvG.three 2 3 4 rfl scApplied.nd)) (Ex.cons (ES.skip (EvT.neI (Ev.len (k := false) rfl rfl B.len (.nm 1)) (Ev.len (k := false) rfl rfl B.len (.ixT (.nm 2) .int x0))) ?_)
      (Ex.cons (ES.st 5 scApplied.nd (Ev.cast (d' := encV (act m c)) (Ev.tupO rfl rfl B.tuple (LcC.ev (own := [("row", 7), ("shift", 8)]) (LcC.map (m.rows.zip m.off) (fun p => .int (dot p.1 c + p.2)) (EvI.cast (EvI.zip2 (k1 := false) (k2 := false) rfl B.zip (.nm 2) (.nm 3)) (zip_row _ _)) ?_ ?_ ?_) rfl scApplied.nd (blkOk_by rfl))) (by simp [encV, act])))
      (Ex.cons (ES.loop1 6 (List.range m.hv) (fun i => [.d (encM m), .d (encV c), .d (encR m.rows), .d (encV m.off), .d (.int m.hv), .d (encV (halveN i (act m c))), .un, .un, .un]) scApplied.nd rfl po (EvI.rng rfl B.range (.nm 4) ?_) ?_ ?_ rfl)
      (Ex.one (ES.ret (Ev.cast (.nm 5) (by rw [List.length_range]; rfl)))))))⟩
    · simp only [List.length_map, hc, l0]
      simp
    · exact .of
    · have := Wm.rl
      have := okLen_le Wm.h1
      simp only [List.length_zip]
      omega
    · intro p hp
      have := List.of_mem_zip hp
      refine .p2 7 8 rfl scApplied.nd ?_
      rintro Y ⟨_, _, _, _, _, rfl⟩
      exact .add (Ev.cl C1 hr (by decide) rfl (EvA.cons (.nm 7) (EvA.cons (.nm 1) .nil)) (.ok (Sm0.row Wm hk this.1) ⟨by have := okLen_le Wm.w1; omega, hs⟩) (.none rfl)) (.nm 8)
    · have := Sm0.hv
      omega
    · exact .same (.same (.same (.same (.same (.same (.same (.same (.same .nil))))))))
    · intro i x hx
      refine ⟨_, Ex.one (ES.st 5 scApplied.nd (Ev.cl C2 hr (by decide) rfl (EvA.cons (.nm 5) .nil) (.ok ?_) (.none rfl))), ?_⟩
      · rw [halveN_len, Wm.act_len]
        exact Wm.h1
      · exact .same (.same (.same (.same (.same (.same (.un rfl (.same (.same .nil))))))))
  | @bad m c w h Wm hc =>
    obtain ⟨r0, rs, e0, l0⟩ := Wm.head
    have x0 : atI (m.rows.map encV) ((0 : Nat) : Int) = some (encV r0) := by rw [e0]; exact atI_at rfl
    refine ⟨.exc _ _ _ _, rfl, Ex.cons (ES.asg (.nm 0) (EvG.three 2 3 4 rfl scApplied.nd)) (Ex.stop (ES.ifT (EvT.neI (Ev.len (k := false) rfl rfl B.len (.nm 1)) (Ev.len (k := false) rfl rfl B.len (.ixT (.nm 2) .int x0))) ?_ (Ex.one (ES.raise rfl EB hr tk (Ev.cast (Ev.len (k := false) rfl rfl B.len (.nm 1)) ?_) rfl))))⟩
    · simp only [List.length_map, l0]
      simp only [decide_eq_true_eq]
      omega
    · simp
end
end K2

namespace DL
open PySem PySem.Spec PyProof.Rows L2
section
variable {X : Cx} {ρ ρ' ρ1 ρ2 : List Den} {pos : Pos} {K : PySem.W.Frag} {W : WX}
/-- name = [..], the list then read alone -/
theorem LcC.st {y : Str} {py spos : Pos} {elt tg iter : Expr} {ifs : List Expr} {scope : Scope} (own : List (Str × Nat)) {ds : List PyData} (i : Nat) (h : LcC X ρ elt tg iter ifs scope (own.map (·.2)) ds ρ1) (hc : X.calm = true) (hN : X.N.Nodup) (ok : BlkOk X.N X.env.scope scope own)
    (hf : isFix ρ1[i]? = false := by rfl) (hl : Nat.ble (i + 1) ρ1.length = true := by rfl) (hy : X.N[i]? = some y := by rfl) (hyl : X.env.scope.names.lookup y = some .local := by rfl) (hsw : swapsWith (.ListComp elt [⟨tg, iter, ifs, 0⟩] scope pos) (some (.Name y py)) spos.line X.env = pure true := by exact L2.sw_true (by rfl) (by rfl) (by rfl) (by rfl))
    (hs : ∀ x, foldedSetIterable iter X.env x = pure x := by intro _; rfl) : ES X W ρ (.Assign [.Name y py] (.ListComp elt [⟨tg, iter, ifs, 0⟩] scope pos) spos) (.nx (ρ1.set i (.d (.list ds)))) := by
  refine ES.weakNx (LcC.set i h hc hN ok hf hy hyl hsw hs) ?_
  have e := Weak.freeze (K := X.K) (ρ := ρ1.set i (.own false ds)) (xs := ds) i (by rw [List.getElem?_set_self (Nat.le_of_ble_eq_true hl)])
  rw [List.set_set] at e
  exact e
/-- a cell's name = a new list, then read alone -/
theorem ES.stF {x : Str} {e : Expr} {pos' : Pos} {ds : List PyData} (i : Nat) (hN : X.N.Nodup) (he : EvO X ρ e ds ρ1) (hf : isFix ρ1[i]? = false := by rfl) (hl : Nat.ble (i + 1) ρ1.length = true := by rfl) (hi : X.N[i]? = some x := by rfl) (hx : Loc X.env.scope x := by first | exact Or.inl rfl | exact Or.inr rfl) (hs : swapsWith e (some (.Name x pos')) pos.line X.env = pure false := by rfl)
    (hfn : X.fn x = true ∨ X.env.scope.names.lookup x = some .local := by first | exact .inl rfl | exact .inr rfl) : ES X W ρ (.Assign [.Name x pos'] e pos) (.nx (ρ1.set i (.d (.list ds)))) := by
  refine ES.weakNx (ES.setO i he hf hN hi hx hs hfn) ?_
  have e := Weak.freeze (K := X.K) (ρ := ρ1.set i (.own false ds)) (xs := ds) i (by rw [List.getElem?_set_self (Nat.le_of_ble_eq_true hl)])
  rw [List.set_set] at e
  exact e
theorem Ev.tu2 {e1 e2 : Expr} {kk : Nat} {d1 d2 : PyData} (h1 : Ev X ρ e1 d1 ρ1) (h2 : Ev X ρ1 e2 d2 ρ2) (hs1 : starEach [e1, e2] X.env = (false, eval e1 X.env) :: starEach [e2] X.env := by rfl) (hs2 : starEach [e2] X.env = (false, eval e2 X.env) :: starEach [] X.env := by rfl) : Ev X ρ (.Tuple [e1, e2] kk pos) (.tuple [d1, d2]) ρ2 :=
  .tup (ds := [d1, d2]) (.cons h1 (.cons h2 .nil hs2) hs1) (by show 2 ≤ sizeLine; decide)
theorem Ev.tu1 {e1 : Expr} {kk : Nat} {d1 : PyData} (h1 : Ev X ρ e1 d1 ρ1) (hs1 : starEach [e1] X.env = (false, eval e1 X.env) :: starEach [] X.env := by rfl) : Ev X ρ (.Tuple [e1] kk pos) (.tuple [d1]) ρ1 :=
  .tup (ds := [d1]) (.cons h1 .nil hs1) (by show 1 ≤ sizeLine; decide)
theorem Ev.tu3 {e1 e2 e3 : Expr} {kk : Nat} {d1 d2 d3 : PyData} {ρ3 : List Den} (h1 : Ev X ρ e1 d1 ρ1) (h2 : Ev X ρ1 e2 d2 ρ2) (h3 : Ev X ρ2 e3 d3 ρ3) (hs1 : starEach [e1, e2, e3] X.env = (false, eval e1 X.env) :: starEach [e2, e3] X.env := by rfl) (hs2 : starEach [e2, e3] X.env = (false, eval e2 X.env) :: starEach [e3] X.env := by rfl)
    (hs3 : starEach [e3] X.env = (false, eval e3 X.env) :: starEach [] X.env := by rfl) : Ev X ρ (.Tuple [e1, e2, e3] kk pos) (.tuple [d1, d2, d3]) ρ3 :=
  .tup (ds := [d1, d2, d3]) (.cons h1 (.cons h2 (.cons h3 .nil hs3) hs2) hs1) (by show 3 ≤ sizeLine; decide)
theorem at3_0 {a b c : PyData} : atI [a, b, c] 0 = some a := rfl
theorem at3_1 {a b c : PyData} : atI [a, b, c] 1 = some b := rfl
theorem at3_2 {a b c : PyData} : atI [a, b, c] 2 = some c := rfl
end
end DL
namespace K2
open PySem PySem.Spec PyProof.Rows L2 DL
section
variable {P : Program} {w : World} {K : PySem.W.Frag} {mg : Str → Option Value} {base : Heap} {cB fB cM fM : Addr}
def unit (n : Nat) : List (List Int) := (List.range n).map fun i => (List.range n).map fun j => if i = j then 1 else 0
def shiftM (v : List Int) : Mp := ⟨unit v.length, v, 0⟩
inductive RShift (cB : Addr) : List Den → Out → Prop
  | ok {v : List Int} : okLen v.length = true → RShift cB [.d (encV v)] (.ret (encM (shiftM v)) [.d (encV v)])
  | bad {ds : List PyData} : okLen ds.length = false → RShift cB [.d (.tuple ds)] (.exc cB ["length"] [.int ds.length] [.d (.tuple ds)])
theorem scShift : FnScope ["vector", "dim", "rows", "i", "j"] ["vector"] (defScope (top 13)) := ⟨rfl, rfl, rfl, by decide +kernel, rfl, by decide +kernel, by decide +kernel⟩
theorem ok_shift (D : Def K mg "shift_map" (top 13) ["vector"]) (B : Bt mg) (C1 : Cl P w K mg base 2 "check_length" ["cell"] (RCheck cB)) : Cl P w K mg base 3 "shift_map" ["vector"] (RShift cB) := by
  refine .of (N := ["vector", "dim", "rows", "i", "j"]) D scShift (by decide) (fun as o h => by cases h <;> exact ⟨rfl, rfl⟩) ?_
  rintro X W ⟨f, cdv, A, outer, s, H, E, rfl⟩ hr tk po as o h
  cases h with
  | @ok v hv =>
    have hn := okLen_le hv
    have e1 : PyData.tuple [.tuple ((List.range v.length).map fun i => encV ((List.range v.length).map fun j => if i = j then 1 else 0)), .tuple (v.map .int), .int 0] = encM (shiftM v) := by
      simp [encM, encR, shiftM, unit, encV, Function.comp_def]
    refine ⟨.ret _ _, rfl, Ex.cons (ES.expr (Ev.cl C1 hr (Nat.le_refl _) rfl (EvA.cons (.nm 0) .nil) (.ok (by rw [List.length_map]; exact hv)) (.none rfl)))
      (Ex.cons (ES.st 1 scShift.nd (Ev.cast (d' := .int v.length) (Ev.len (k := false) rfl rfl B.len (.nm 0)) (by simp)))
      (Ex.cons (LcC.st [("i", 3)] 2 (LcC.map (List.range v.length) (fun i => encV ((List.range v.length).map fun j => if i = j then 1 else 0)) (EvI.rng rfl B.range (.nm 1) ?_) ?_ ?_ ?_) rfl scShift.nd (blkOk_by rfl))
      (Ex.one (ES.ret (Ev.cast (Ev.tu3 (Ev.tupOf (k := true) rfl rfl B.tuple (.nm 2)) (Ev.tupOf (k := false) rfl rfl B.tuple (.nm 0)) .int) e1)))))⟩
    · omega
    · exact .of
    · simp; omega
    · intro i hi
      refine .p1 3 scShift.nd ?_
      rintro Y ⟨_, _, _, _, _, rfl⟩
      refine Ev.cast (Ev.tupO rfl rfl B.tuple (LcC.ev (own := [("j", 4)]) (LcC.map (List.range v.length) (fun j => if decide ((i : Int) = (j : Int)) then .int 1 else .int 0) (EvI.rng rfl B.range (.nm 1) ?_) ?_ ?_ ?_) rfl scShift.nd (blkOk_by rfl))) ?_
      · omega
      · exact .of
      · simp; omega
      · intro j hj
        refine .p1 4 scShift.nd ?_
        rintro Y ⟨_, _, _, _, _, rfl⟩
        exact .iteV (EvT.eqI (.nm 3) (.nm 4)) .int .int
      · simp only [encV, List.map_map]
        congr 2
        funext j
        by_cases h : i = j
        · simp [h]
        · have : ¬ ((i : Int) = (j : Int)) := by omega
          simp [h, this]
  | @bad ds hv =>
    exact ⟨.exc _ _ _ _, rfl, Ex.stop (ES.clX C1 hr (Nat.le_refl _) rfl tk (EvA.cons (.nm 0) .nil) (.bad hv) (.none rfl))⟩
end
end K2

namespace K2
open PySem PySem.Spec PyProof.Rows L2 DL
section
variable {P : Program} {w : World} {K : PySem.W.Frag} {mg : Str → Option Value} {base : Heap} {cB fB cM fM : Addr}
def wd (m : Mp) : Nat := (m.rows.headD []).length
def colsOf (rows : List (List Int)) (n : Nat) : List (List Int) := (List.range n).map fun j => col rows j
def afterM (f g : Mp) : Mp := ⟨g.rows.map fun r => (colsOf f.rows (wd f)).map fun c => dot r c, (g.rows.zip g.off).map fun p => dot p.1 f.off + p.2, g.hv⟩
theorem Wf.wd {m : Mp} {w h : Nat} (W : Wf m w h) : wd m = w := by
  obtain ⟨r0, rs, e, l⟩ := W.head
  unfold K2.wd
  rw [e]
  exact l
inductive RAfter (cM : Addr) : List Den → Out → Prop
  | ok {f g : Mp} {w h h' kf kg : Nat} : Wf f w h → Wf g h h' → f.hv = 0 → Sz kf f → Sz kg g → kf ≤ 1900 → kg ≤ 1900 → RAfter cM [.d (encM f), .d (encM g)] (.ret (encM (afterM f g)) [.d (encM f), .d (encM g)])
  | hal {f g : Mp} : 0 < f.hv → RAfter cM [.d (encM f), .d (encM g)] (.exc cM ["why"] [.str "halvings"] [.d (encM f), .d (encM g)])
  | dim {f g : Mp} {w h w' h' : Nat} : f.hv = 0 → Wf f w h → Wf g w' h' → h ≠ w' → RAfter cM [.d (encM f), .d (encM g)] (.exc cM ["why"] [.str "dim"] [.d (encM f), .d (encM g)])
theorem scAfter : FnScope ["first", "second", "rows", "offset", "halvings", "columns", "products", "shifts", "j", "row", "column", "shift"] ["first", "second"] (defScope (top 14)) := ⟨rfl, rfl, rfl, by decide +kernel, rfl, by decide +kernel, by decide +kernel⟩
theorem Sm.pow {k : Nat} {x : Int} (h : x.natAbs < 2 ^ k) (hk : k ≤ 1900) : Sm x := Sm.of h hk
theorem col_sm {m : Mp} {w h k : Nat} (W : Wf m w h) (S : Sz k m) (hk : k ≤ 1900) {j : Nat} (hj : j < w) : SmV (col m.rows j) := by
  refine ⟨?_, fun x hx => ?_⟩
  · have := W.rl
    have := okLen_le W.h1
    unfold col
    rw [List.length_map]
    omega
  · unfold col at hx
    obtain ⟨r, hr, rfl⟩ := List.mem_map.mp hx
    have hl : j < r.length := by rw [W.cl r hr]; exact hj
    have e : r.getD j 0 = r[j] := by simp [List.getD, List.getElem?_eq_getElem hl]
    rw [e]
    exact Sm.of (S.r r hr _ (List.getElem_mem hl)) hk
theorem off_sm {m : Mp} {w h k : Nat} (W : Wf m w h) (S : Sz k m) (hk : k ≤ 1900) : SmV m.off := by
  refine ⟨?_, fun x hx => Sm.of (S.o x hx) hk⟩
  have := W.ol
  have := okLen_le W.h1
  omega
theorem ok_after (D : Def K mg "after" (top 14) ["first", "second"]) (B : Bt mg) (EM : PySem.DLX.ErrTxt P K mg "BadMap" "why" cM fM) (C1 : Cl P w K mg base 1 "dot" ["row", "vector"] RDot) (C2 : Cl P w K mg base 1 "column_of" ["rows", "j"] RCol) :
    Cl P w K mg base 2 "after" ["first", "second"] (RAfter cM) := by
  refine .of (N := ["first", "second", "rows", "offset", "halvings", "columns", "products", "shifts", "j", "row", "column", "shift"]) D scAfter (by decide) (fun as o h => by cases h <;> exact ⟨rfl, rfl⟩) ?_
  rintro X W ⟨f, cdv, A, outer, s, H, E, rfl⟩ hr tk po as o h
  cases h with
  | @ok m n w h h' kf kg Wm Wn hz Sm1 Sn hk1 hk2 =>
    obtain ⟨r0, rs, e0, l0⟩ := Wm.head
    obtain ⟨r1, rs1, e1, l1⟩ := Wn.head
    have x0 : atI (m.rows.map encV) 0 = some (encV r0) := by rw [e0]; exact atI_at (n := 0) rfl
    have x1 : atI (n.rows.map encV) 0 = some (encV r1) := by rw [e1]; exact atI_at (n := 0) rfl
    have hw := okLen_le Wm.w1
    have hh := okLen_le Wm.h1
    have hh' := okLen_le Wn.h1
    have e3 : PyData.tuple [.tuple (n.rows.map fun r => encV ((colsOf m.rows w).map fun c => dot r c)), .tuple ((n.rows.zip n.off).map fun p => .int (dot p.1 m.off + p.2)), .int n.hv] = encM (afterM m n) := by
      simp [encM, encR, afterM, encV, Function.comp_def, Wm.wd]
    refine ⟨.ret _ _, rfl, Ex.cons (ES.asg (.nm 0) (EvG.three 2 3 4 rfl scAfter.nd)) <| Ex.cons (ES.skip (EvT.gt (.nm 4) .int) ?_) <|
      Ex.cons (ES.skip (EvT.neI (Ev.len (k := false) rfl rfl B.len (.nm 2)) (Ev.len (k := false) rfl rfl B.len (.ixT (.ixT (.nm 1) .int at3_0) .int x1))) ?_) <|
      Ex.cons (ES.stF 5 scAfter.nd (LcC.ev (own := [("j", 8)]) (LcC.map (List.range w) (fun j => encV (col m.rows j)) (EvI.rng rfl B.range (Ev.cast (d' := .int w) (Ev.len (k := false) rfl rfl B.len (.ixT (.nm 2) .int x0)) (by rw [List.length_map, l0])) ?_) ?_ ?_ ?_) rfl scAfter.nd (blkOk_by rfl))) <|
      Ex.cons (LcC.st [("row", 9)] 6 (LcC.map n.rows (fun r => encV ((colsOf m.rows w).map fun c => dot r c)) (EvI.tup (.ixT (.nm 1) .int at3_0)) ?_ ?_ ?_) rfl scAfter.nd (blkOk_by rfl)) <|
      Ex.cons (LcC.st [("row", 9), ("shift", 11)] 7 (LcC.map (n.rows.zip n.off) (fun p => .int (dot p.1 m.off + p.2)) (EvI.cast (EvI.zip2 (k1 := false) (k2 := false) rfl B.zip (.ixT (.nm 1) .int at3_0) (.ixT (.nm 1) .int at3_1)) (zip_row _ _)) ?_ ?_ ?_) rfl scAfter.nd (blkOk_by rfl)) <|
      Ex.one (ES.ret (Ev.cast (Ev.tu3 (Ev.tupOf (k := true) rfl rfl B.tuple (.nm 6)) (Ev.tupOf (k := true) rfl rfl B.tuple (.nm 7)) (.ixT (.nm 1) .int at3_2)) e3))⟩
    · rw [hz]
      rfl
    · simp only [List.length_map, Wm.rl, l1]
      simp
    · omega
    · exact .of
    · simp; omega
    · intro j hj
      refine .p1 8 scAfter.nd ?_
      rintro Y ⟨_, _, _, _, _, rfl⟩
      refine Ev.cl C2 hr (by decide) rfl (EvA.cons (.nm 2) (EvA.cons (.nm 8) .nil)) (.ok (by rw [Wm.rl]; omega) ?_) (.none rfl)
      intro r hr
      rw [Wm.cl r hr]
      simpa using hj
    · exact .of
    · rw [Wn.rl]; omega
    · intro r hr'
      refine .p1 9 scAfter.nd ?_
      rintro Y ⟨_, _, _, _, _, rfl⟩
      have ec : (List.range w).map (fun j => encV (col m.rows j)) = (colsOf m.rows w).map encV := by simp [colsOf]
      refine Ev.cast (Ev.tupO rfl rfl B.tuple (LcC.ev (own := [("column", 10)]) (LcC.map (colsOf m.rows w) (fun c => .int (dot r c)) (EvI.cast (EvI.list (.nm 5)) ec) ?_ ?_ ?_) rfl scAfter.nd (blkOk_by rfl))) (by simp [encV])
      · exact .of
      · simp [colsOf]; omega
      · intro c hc
        refine .p1 10 scAfter.nd ?_
        rintro Y ⟨_, _, _, _, _, rfl⟩
        refine Ev.cl C1 hr (by decide) rfl (EvA.cons (.nm 9) (EvA.cons (.nm 10) .nil)) (.ok (Sn.row Wn hk2 hr') ?_) (.none rfl)
        obtain ⟨j, hj, rfl⟩ := List.mem_map.mp hc
        exact col_sm Wm Sm1 hk1 (by simpa using hj)
    · exact .of
    · simp only [List.length_zip, Wn.rl, Wn.ol]; omega
    · intro p hp
      have := List.of_mem_zip hp
      refine .p2 9 11 rfl scAfter.nd ?_
      rintro Y ⟨_, _, _, _, _, rfl⟩
      exact .add (Ev.cl C1 hr (by decide) rfl (EvA.cons (.nm 9) (EvA.cons (.nm 3) .nil)) (.ok (Sn.row Wn hk2 this.1) (off_sm Wm Sm1 hk1)) (.none rfl)) (.nm 11)
  | @hal m n hz =>
    refine ⟨.exc _ _ _ _, rfl, Ex.cons (ES.asg (.nm 0) (EvG.three 2 3 4 rfl scAfter.nd)) (Ex.stop (ES.ifT (EvT.gt (.nm 4) .int) ?_ (Ex.one (ES.raise rfl EM hr tk .str rfl))))⟩
    simpa using hz
  | @dim m n w h w' h' hz Wm Wn hne =>
    obtain ⟨r1, rs1, e1, l1⟩ := Wn.head
    have x1 : atI (n.rows.map encV) 0 = some (encV r1) := by rw [e1]; exact atI_at (n := 0) rfl
    refine ⟨.exc _ _ _ _, rfl, Ex.cons (ES.asg (.nm 0) (EvG.three 2 3 4 rfl scAfter.nd)) (Ex.cons (ES.skip (EvT.gt (.nm 4) .int) ?_)
      (Ex.stop (ES.ifT (EvT.neI (Ev.len (k := false) rfl rfl B.len (.nm 2)) (Ev.len (k := false) rfl rfl B.len (.ixT (.ixT (.nm 1) .int at3_0) .int x1))) ?_ (Ex.one (ES.raise rfl EM hr tk .str rfl)))))⟩
    · rw [hz]
      rfl
    · simp only [List.length_map, Wm.rl, l1, decide_eq_true_eq]
      omega
end
end K2

namespace DL
open PySem PySem.Spec PyProof.Rows L2
mutual
theorem eqv_gd : ∀ d : PyData, Gd d → PyData.eqv d d = true
  | .none, _ => rfl
  | .bool b, _ => by simp [PyData.eqv]
  | .int i, _ => by simp [PyData.eqv]
  | .str x, _ => by simp [PyData.eqv]
  | .list xs, h => by rw [PyData.eqv]; exact eqvAll_gd xs h
  | .tuple xs, h => by rw [PyData.eqv]; exact eqvAll_gd xs h
  | .dict _, h => h.elim
theorem eqvAll_gd : ∀ xs : List PyData, GdAll xs → PyData.eqvAll xs xs = true
  | [], _ => rfl
  | x :: xs, h => by
    rw [PyData.eqvAll, eqv_gd x h.1, eqvAll_gd xs h.2]; rfl
end
section
variable {X : Cx} {ρ ρ' ρ1 ρ2 : List Den} {pos : Pos} {K : PySem.W.Frag} {W : WX}
theorem Ev.eqD {a b : Expr} {d e : PyData} (hu : X.A.units + 64 < cLine) (h1 : Nice d) (h2 : Nice e) (ha : Ev X ρ a d ρ1) (hb : Ev X ρ1 b e ρ2) : Ev X ρ (.Compare a [.Eq] [b] pos) (.bool (PyData.eqv d e)) ρ2 := .cmp (op_eqD hu) (pr_eqD h1.shaped h2.shaped) (nomark _) ha hb
theorem Ev.eqS {a b : Expr} {x y : Str} (ha : Ev X ρ a (.str x) ρ1) (hb : Ev X ρ1 b (.str y) ρ2) : Ev X ρ (.Compare a [.Eq] [b] pos) (.bool (decide (x = y))) ρ2 := .cmp op_eq pr_eqS (nomark _) ha hb
end
end DL
namespace K2
open PySem PySem.Spec PyProof.Rows L2 DL
section
variable {P : Program} {w : World} {K : PySem.W.Frag} {mg : Str → Option Value} {base : Heap} {cB fB cM fM : Addr}
/-! ### _law_same -/
inductive RSame : List Den → Out → Prop
  | ok {d : PyData} : Gd d → Nice d → RSame [.d d, .d d] (.ret (.bool true) [.d d, .d d])
theorem scSame : FnScope ["told", "due"] ["told", "due"] (defScope (top 18)) := ⟨rfl, rfl, rfl, by decide +kernel, rfl, by decide +kernel, by decide +kernel⟩
theorem ok_same (D : Def K mg "_law_same" (top 18) ["told", "due"]) (B : Bt mg) : Cl P w K mg base 1 "_law_same" ["told", "due"] RSame := by
  refine .of (N := ["told", "due"]) D scSame (by decide) (fun as o h => by cases h <;> exact ⟨rfl, rfl⟩) ?_
  rintro X W ⟨f, cdv, A, outer, s, H, E, rfl⟩ hr tk po as o h
  cases h with | @ok d hg hn => ?_
  have hu := hr.r.un
  refine ⟨.ret _ _, rfl, Ex.one (ES.ret (Ev.cast (Ev.and (Ev.eqD (by omega) hn hn (.nm 0) (.nm 1)) (fun _ => Ev.one (Ev.eqS (Ev.repr rfl hr.g (by omega) rfl B.repr (.nm 0) hn) (Ev.repr rfl hr.g (by omega) rfl B.repr (.nm 1) hn))) (fun _ => rfl)) ?_))⟩
  rw [eqv_gd d hg]
  simp
/-! ### _law_unit -/
inductive RUnit : List Den → Out → Prop
  | ok {n : Nat} : n ≤ 3 → RUnit [.d (.int n)] (.ret (encR (unit n)) [.d (.int n)])
theorem scUnit : FnScope ["dim", "i", "j"] ["dim"] (defScope (top 27)) := ⟨rfl, rfl, rfl, by decide +kernel, rfl, by decide +kernel, by decide +kernel⟩
theorem ok_unit (D : Def K mg "_law_unit" (top 27) ["dim"]) (B : Bt mg) : Cl P w K mg base 1 "_law_unit" ["dim"] RUnit := by
  refine .of (N := ["dim", "i", "j"]) D scUnit (by decide) (fun as o h => by cases h <;> exact ⟨rfl, rfl⟩) ?_
  rintro X W ⟨f, cdv, A, outer, s, H, E, rfl⟩ hr tk po as o h
  cases h with | @ok n hn => ?_
  refine ⟨.ret (encR (unit n)) _, rfl, Ex.one (ES.ret (Ev.cast (Ev.tupO rfl rfl B.tuple (LcC.ev (own := [("i", 1)]) (LcC.map (List.range n) (fun i => encV ((List.range n).map fun j => if i = j then 1 else 0)) (EvI.rng rfl B.range (.nm 0) ?_) ?_ ?_ ?_) rfl scUnit.nd (blkOk_by rfl))) (by simp [encR, unit, Function.comp_def])))⟩
  · omega
  · exact .of
  · simp; omega
  · intro i hi
    refine .p1 1 scUnit.nd ?_
    rintro Y ⟨_, _, _, _, _, rfl⟩
    refine Ev.cast (Ev.tupO rfl rfl B.tuple (LcC.ev (own := [("j", 2)]) (LcC.map (List.range n) (fun j => .int (if decide ((i : Int) = (j : Int)) then 1 else 0)) (EvI.rng rfl B.range (.nm 0) ?_) ?_ ?_ ?_) rfl scUnit.nd (blkOk_by rfl))) ?_
    · omega
    · exact .of
    · simp; omega
    · intro j hj
      refine .p1 2 scUnit.nd ?_
      rintro Y ⟨_, _, _, _, _, rfl⟩
      exact Ev.intB rfl rfl B.int (Ev.eqI (.nm 1) (.nm 2))
    · simp only [encV, List.map_map]
      congr 2
      funext j
      by_cases h : i = j
      · simp [h]
      · have : ¬ ((i : Int) = (j : Int)) := by omega
        simp [h, this]
/-! ### _law_draw -/
inductive RDraw : List Den → Out → Prop
  | ok {p m : Int} : 0 < m → Sm m → RDraw [.own true [.int p], .d (.int m)] (.ret (.int (p % m)) [.own true [.int (p / m)], .d (.int m)])
theorem scDraw : FnScope ["pool", "most", "worth"] ["pool", "most"] (defScope (top 17)) := ⟨rfl, rfl, rfl, by decide +kernel, rfl, by decide +kernel, by decide +kernel⟩
theorem ok_draw (D : Def K mg "_law_draw" (top 17) ["pool", "most"]) (B : Bt mg) : Cl P w K mg base 1 "_law_draw" ["pool", "most"] RDraw := by
  refine .of (N := ["pool", "most", "worth"]) D scDraw (by decide) (fun as o h => by cases h <;> exact ⟨rfl, rfl⟩) ?_
  rintro X W ⟨f, cdv, A, outer, s, H, E, rfl⟩ hr tk po as o h
  cases h with | @ok p m hm hs => ?_
  have hl := hs.log
  refine ⟨.ret _ _, rfl, Ex.cons (ES.st 2 scDraw.nd (Ev.mod (Ev.toInt rfl rfl B.int (Ev.ixOwn 0 .int rfl rfl)) (.nm 1) hm)) <|
    Ex.cons (ES.setIx (k := 0) (fx := true) (xs := [.int p]) 0 (Ev.fdiv (Ev.ixOwn 0 .int rfl rfl) (.nm 1) ⟨hm, by omega⟩) .int rfl rfl rfl (Or.inl rfl)) <| Ex.one (ES.ret (.nm 2))⟩
end
end K2

namespace K2
open PySem PySem.Spec PyProof.Rows L2 DL
section
variable {P : Program} {w : World} {K : PySem.W.Frag} {mg : Str → Option Value} {base : Heap} {cB fB cM fM : Addr}
/-! ### _law_number -/
def topI : Int := 10 ^ 120
def scrC : Int := 314159265358979323846264338327950288419
def scr (m : Int) : Int := (m * scrC) ^ 2 / 10 ^ 10 % topI
def mixN (ns : List Int) (k : Nat) : Int := ns.foldl (fun m c => m * 7 + (c.natAbs : Int) % topI) ((k : Int) + 1)
def number (ns : List Int) (k : Nat) : Int :=
  if (decide ((k : Int) < ns.length) && decide ((10 : Int) ^ 18 ≤ (((ns.getD k 0).natAbs : Nat) : Int))) = true then ((ns.getD k 0).natAbs : Int) % topI else scr (scr (mixN ns k))
theorem topI_pos : (0 : Int) < topI := by decide +kernel
theorem topI_lt : topI < 2 ^ 400 := by decide +kernel
theorem mod_top (x : Int) : 0 ≤ x % topI ∧ x % topI < 2 ^ 400 := ⟨Int.emod_nonneg _ (Int.ne_of_gt topI_pos), Int.lt_trans (Int.emod_lt_of_pos _ topI_pos) topI_lt⟩
theorem scr_b (x : Int) : 0 ≤ scr x ∧ scr x < 2 ^ 400 := mod_top _
theorem mix_b : ∀ (ns : List Int) (m : Int) (e : Nat), 400 ≤ e → 0 ≤ m → m < 2 ^ e → 0 ≤ ns.foldl (fun m c => m * 7 + (c.natAbs : Int) % topI) m ∧ ns.foldl (fun m c => m * 7 + (c.natAbs : Int) % topI) m < 2 ^ (e + 3 * ns.length)
  | [], m, e, _, h1, h2 => ⟨h1, by simpa using h2⟩
  | c :: ns, m, e, he, h1, h2 => by
    have t := mod_top (c.natAbs : Int)
    have p : (2 : Int) ^ 400 ≤ 2 ^ e := by exact_mod_cast (Nat.pow_le_pow_right (n := 2) (by decide) he)
    have q : (2 : Int) ^ (e + 3) = 8 * 2 ^ e := by rw [Int.pow_add]; omega
    have ih := mix_b ns (m * 7 + (c.natAbs : Int) % topI) (e + 3) (by omega) (by omega) (by rw [q]; omega)
    rw [List.foldl_cons, List.length_cons]
    have : e + 3 + 3 * ns.length = e + 3 * (ns.length + 1) := by omega
    rw [← this]
    exact ih
theorem sm_of {x : Int} {e : Nat} (h1 : 0 ≤ x) (h2 : x < 2 ^ e) (he : e ≤ 1900) : Sm x := by
  refine Sm.of (k := e) ?_ he
  have : (x.natAbs : Int) < ((2 ^ e : Nat) : Int) := by
    rw [Int.natCast_pow]
    have : (x.natAbs : Int) = x := by omega
    rw [this]
    exact h2
  exact_mod_cast this
theorem number_b (ns : List Int) (k : Nat) : 0 ≤ number ns k ∧ number ns k < 2 ^ 400 := by
  unfold number
  split
  · exact mod_top _
  · exact scr_b _
theorem Sm.bits {x : Int} (h : Sm x) : Builtin.Int.intBits x ≤ 2000 := by
  have := h.log
  unfold Builtin.Int.intBits
  split <;> omega
inductive RNumber : List Den → Out → Prop
  | ok {ns : List Int} {k : Nat} : ns.length ≤ 63 → k ≤ 100 → RNumber [.d (.list (ns.map .int)), .d (.int k)] (.ret (.int (number ns k)) [.d (.list (ns.map .int)), .d (.int k)])
theorem scNumber : FnScope ["script", "k", "top", "mix", "cell", "turn"] ["script", "k"] (defScope (top 16)) := ⟨rfl, rfl, rfl, by decide +kernel, rfl, by decide +kernel, by decide +kernel⟩
theorem take_more {α : Type} : ∀ {l : List α} {i : Nat} {x : α}, l[i]? = some x → l.take (i + 1) = l.take i ++ [x]
  | [], i, x, h => by simp at h
  | a :: l, 0, x, h => by
    have e : a = x := Option.some.inj h
    subst e
    rfl
  | a :: l, i + 1, x, h => by
    have ih := take_more (l := l) (i := i) (x := x) h
    show a :: l.take (i + 1) = a :: l.take i ++ [x]
    rw [ih]
    rfl
def scrN : Nat → Int → Int
  | 0, m => m
  | n + 1, m => scr (scrN n m)
theorem ok_number (D : Def K mg "_law_number" (top 16) ["script", "k"]) (B : Bt mg) : Cl P w K mg base 1 "_law_number" ["script", "k"] RNumber := by
  refine .of (N := ["script", "k", "top", "mix", "cell", "turn"]) D scNumber (by decide) (fun as o h => by cases h <;> exact ⟨rfl, rfl⟩) ?_
  rintro X W ⟨f, cdv, A, outer, s, H, E, rfl⟩ hr tk po as o h
  cases h with | @ok ns k hn hk => ?_
  have e0 : (PyData.int ((10 : Int) ^ ((60 : Int)).toNat * 10 ^ ((60 : Int)).toNat)) = .int topI := congrArg _ (by decide +kernel)
  have e1 : (PyData.int ((10 : Int) ^ ((18 : Int)).toNat)) = .int (10 ^ 18) := rfl
  have c60 : CPow 10 60 := by unfold CPow; omega
  have c18 : CPow 10 18 := by unfold CPow; omega
  have c10 : CPow 10 10 := by unfold CPow; omega
  have m60 : CMulW ((10 : Int) ^ ((60 : Int)).toNat) (10 ^ ((60 : Int)).toNat) := by unfold CMulW; decide +kernel
  have hix : decide ((k : Int) < ns.length) = true → atI (ns.map PyData.int) (k : Int) = some (.int (ns.getD k 0)) := fun hk' => by
    have hk' : k < ns.length := by simpa using hk'
    exact atI_at (by simp [List.getElem?_eq_getElem hk'])
  by_cases hc : (decide ((k : Int) < ns.length) && decide ((10 : Int) ^ 18 ≤ (((ns.getD k 0).natAbs : Nat) : Int))) = true
  · have hc1 := (Bool.and_eq_true_iff.mp hc).1
    have ev : PyData.int (((ns.getD k 0).natAbs : Int) % topI) = .int (number ns k) := by
      unfold number
      rw [if_pos hc]
    refine ⟨.ret (.int (number ns k)) _, rfl, Ex.cons (ES.st 2 scNumber.nd (Ev.cast (Ev.mul (Ev.pow .int .int c60) (Ev.pow .int .int c60) m60) e0)) <|
      Ex.stop (ES.ifT (EvW.t (EvW.and (EvT.lt (.nm 1) (Ev.cast (d' := .int ns.length) (Ev.len (k := true) rfl rfl B.len (.nm 0)) (by rw [List.length_map]))) (fun hk => EvW.and1 (EvT.ge (Ev.abs rfl rfl B.abs (Ev.ixL (.nm 0) (.nm 1) (hix hk))) (Ev.cast (Ev.pow .int .int c18) e1))))) hc
        (Ex.one (ES.ret (Ev.cast (Ev.mod (Ev.toInt rfl rfl B.int (Ev.abs rfl rfl B.abs (Ev.ixL (.nm 0) (.nm 1) (hix hc1)))) (.nm 2) topI_pos) ev))))⟩
  · have hc' : (decide ((k : Int) < ns.length) && decide ((10 : Int) ^ 18 ≤ (((ns.getD k 0).natAbs : Nat) : Int))) = false := by simpa using hc
    have ev : PyData.int (scrN 2 (mixN ns k)) = .int (number ns k) := by
      unfold number
      rw [if_neg hc]
      rfl
    have k400 : ((k : Int) + 1) < 2 ^ 400 := Int.lt_of_le_of_lt (show (k : Int) + 1 ≤ 101 by omega) (by decide +kernel)
    have mb := mix_b ns ((k : Int) + 1) 400 (Nat.le_refl _) (by omega) k400
    have sb : ∀ i, 0 ≤ scrN i (mixN ns k) ∧ scrN i (mixN ns k) < 2 ^ 600 := fun i => by
      cases i with
      | zero =>
        refine ⟨mb.1, Int.lt_of_lt_of_le mb.2 ?_⟩
        exact_mod_cast (Nat.pow_le_pow_right (n := 2) (by decide) (by omega : 400 + 3 * ns.length ≤ 600))
      | succ i => exact ⟨(scr_b _).1, Int.lt_trans (scr_b _).2 (by decide +kernel)⟩
    have hC : Sm scrC := Sm.of (k := 128) (by decide +kernel)
    have sm1 : ∀ i, Sm (scrN i (mixN ns k)) := fun i => sm_of (sb i).1 (sb i).2 (by decide)
    have sm2 : ∀ i, Sm (scrN i (mixN ns k) * scrC) := fun i => by
      have c0 : (0 : Int) < scrC := by decide +kernel
      have c1 : scrC < 2 ^ 128 := by decide +kernel
      refine sm_of (e := 728) (Int.mul_nonneg (sb i).1 (Int.le_of_lt c0)) ?_ (by decide)
      have e7 : (2 : Int) ^ 728 = 2 ^ 600 * 2 ^ 128 := by decide +kernel
      rw [e7]
      exact Int.mul_lt_mul (sb i).2 (Int.le_of_lt c1) c0 (by decide +kernel)
    refine ⟨.ret (.int (number ns k)) _, rfl, Ex.cons (ES.st 2 scNumber.nd (Ev.cast (Ev.mul (Ev.pow .int .int c60) (Ev.pow .int .int c60) m60) e0)) <|
      Ex.cons (ES.skip (EvW.t (EvW.and (EvT.lt (.nm 1) (Ev.cast (d' := .int ns.length) (Ev.len (k := true) rfl rfl B.len (.nm 0)) (by rw [List.length_map]))) (fun hk => EvW.and1 (EvT.ge (Ev.abs rfl rfl B.abs (Ev.ixL (.nm 0) (.nm 1) (hix hk))) (Ev.cast (Ev.pow .int .int c18) e1))))) hc') <|
      Ex.cons (ES.st 3 scNumber.nd (Ev.add (.nm 1) .int)) <|
      Ex.cons (ES.loop1 4 ns (fun i => [.d (.list (ns.map .int)), .d (.int k), .d (.int topI), .d (.int ((ns.take i).foldl (fun m c => m * 7 + (c.natAbs : Int) % topI) ((k : Int) + 1))), .un, .un]) scNumber.nd rfl po (EvI.list (.nm 0)) ?_ ?_ rfl) <|
      Ex.cons (ES.loop1 5 (List.range 2) (fun i => [.d (.list (ns.map .int)), .d (.int k), .d (.int topI), .d (.int (scrN i (mixN ns k))), .un, .un]) scNumber.nd rfl po (EvI.rng rfl B.range .int (by decide)) ?_ ?_ rfl) <|
      Ex.one (ES.ret (Ev.cast (.nm 3) ev))⟩
    · exact .same (.same (.same (.same (.same (.same .nil)))))
    · intro i x hx
      have b1 := mix_b (ns.take i) ((k : Int) + 1) 400 (Nat.le_refl _) (by omega) k400
      have hl : (ns.take i).length ≤ 63 := by rw [List.length_take]; omega
      refine ⟨_, Ex.one (ES.st 3 scNumber.nd (Ev.add (Ev.mul (.nm 3) .int (Sm.mul (sm_of b1.1 b1.2 (by omega)) (Sm.of (k := 3) (by decide)))) (Ev.mod (Ev.toInt rfl rfl B.int (Ev.abs rfl rfl B.abs (.nm 4))) (.nm 2) topI_pos))), ?_⟩
      rw [take_more hx, List.foldl_append]
      exact .same (.same (.same (.same (.un rfl (.same .nil)))))
    · rw [List.take_length]
      exact .same (.same (.same (.same (.same (.same .nil)))))
    · intro i x hx
      refine ⟨_, Ex.one (ES.st 3 scNumber.nd (Ev.mod (Ev.fdiv (Ev.powW (Ev.mul (.nm 3) .int (Sm.mul (sm1 i) hC)) .int ⟨by decide, ?_⟩) (Ev.pow .int .int c10) ⟨by decide, by decide +kernel⟩) (.nm 2) topI_pos)), ?_⟩
      · have := (sm2 i).bits
        unfold scrC at this
        omega
      · exact .same (.same (.same (.same (.same (.un rfl .nil)))))
end
end K2

namespace DL
open PySem PySem.Spec PyProof.Rows L2
section
variable {X : Cx} {ρ ρ' ρ1 ρ2 : List Den} {pos : Pos} {K : PySem.W.Frag} {W : WX}
/-- a comprehension whose turns change what is known -/
theorem LcC.go {α : Type} {elt tg iter : Expr} {scope : Scope} {vs : List Nat} {g : α → PyData} {ρ3 : List Den} (xs : List α) (f : Nat → PyData) (S : Nat → List Den) (hi : EvI X ρ tg iter (xs.map g) ρ1) (h0 : WkL ρ1 (S 0)) (hz : xs.length ≤ 1000000)
    (ht : ∀ i x, xs[i]? = some x → LcT X scope vs (S i) tg elt [] (g x) (some (f i)) (S (i + 1))) (he : S xs.length = ρ3) (hlen : ∀ i, (S i).length = (S (i + 1)).length := by intro _; rfl) (nk : ∀ i, NoKn (S i) vs := by intro _; exact NoKn.of) :
    LcC X ρ elt tg iter [] scope vs ((List.range xs.length).map f) ρ3 := by
  subst he
  have h := LcC.mk (elt := elt) (ifs := []) hi S (.of h0) hlen nk (fun i => some (f i)) (by simpa using hz) (fun i d hd => by
    obtain ⟨y, hy, rfl⟩ := loopB hd
    exact ht i y hy)
  have e : (List.range (xs.map g).length).filterMap (fun i => some (f i)) = (List.range xs.length).map f := by
    rw [List.length_map, List.filterMap_eq_map']
  rw [e, List.length_map] at h
  exact h
theorem LcT.p1S {scope : Scope} {vs : List Nat} {ρa ρb ρ3 : List Den} {x : Str} {tp : Pos} {elt : Expr} {d y : PyData} (i : Nat) (hN : X.N.Nodup) (he : ∀ Y, Blk X scope Y → Ev Y (ρa.set i (.d d)) elt y ρ3) (ha : Agr vs ρ3 ρb)
    (hi : i ∈ vs := by decide) (hNi : X.N[i]? = some x := by rfl) (hl : Loc scope x := by first | exact Or.inl rfl | exact Or.inr rfl) (hf : isFix ρa[i]? = false := by rfl) : LcT X scope vs ρa (.Name x tp) elt [] d (some y) ρb :=
  ⟨ρa.set i (.d d), [i], fun Y hY => by
    obtain ⟨_, _, _, _, _, rfl⟩ := hY
    exact .name i hf hN hNi (loc_rel hl) (fn_rel hl), by simpa using hi, by simp, fun _ _ => .nil, ρ3, he, ha.2⟩
theorem Ev.li3 {e1 e2 e3 : Expr} {d1 d2 d3 : PyData} {ρ3 : List Den} (h1 : Ev X ρ e1 d1 ρ1) (h2 : Ev X ρ1 e2 d2 ρ2) (h3 : Ev X ρ2 e3 d3 ρ3) (hs1 : starEach [e1, e2, e3] X.env = (false, eval e1 X.env) :: starEach [e2, e3] X.env := by rfl) (hs2 : starEach [e2, e3] X.env = (false, eval e2 X.env) :: starEach [e3] X.env := by rfl)
    (hs3 : starEach [e3] X.env = (false, eval e3 X.env) :: starEach [] X.env := by rfl) : Ev X ρ (.List [e1, e2, e3] pos) (.list [d1, d2, d3]) ρ3 :=
  EvO.ev (EvO.lst (ds := [d1, d2, d3]) (.cons h1 (.cons h2 (.cons h3 .nil hs3) hs2) hs1) (by show 3 ≤ sizeLine; decide))
theorem Ev.li2 {e1 e2 : Expr} {d1 d2 : PyData} (h1 : Ev X ρ e1 d1 ρ1) (h2 : Ev X ρ1 e2 d2 ρ2) (hs1 : starEach [e1, e2] X.env = (false, eval e1 X.env) :: starEach [e2] X.env := by rfl) (hs2 : starEach [e2] X.env = (false, eval e2 X.env) :: starEach [] X.env := by rfl) : Ev X ρ (.List [e1, e2] pos) (.list [d1, d2]) ρ2 :=
  EvO.ev (EvO.lst (ds := [d1, d2]) (.cons h1 (.cons h2 .nil hs2) hs1) (by show 2 ≤ sizeLine; decide))
theorem EvO.li1 {e1 : Expr} {d1 : PyData} (h1 : Ev X ρ e1 d1 ρ1) (hs1 : starEach [e1] X.env = (false, eval e1 X.env) :: starEach [] X.env := by rfl) : EvO X ρ (.List [e1] pos) [d1] ρ1 :=
  EvO.lst (ds := [d1]) (.cons h1 .nil hs1) (by show 1 ≤ sizeLine; decide)
theorem EvO.li0 : EvO X ρ (.List [] pos) [] ρ := EvO.lst (ds := []) .nil (by show 0 ≤ sizeLine; decide)
theorem ES.app {x : Str} {px pp p2 : Pos} {e : Expr} {fx : Bool} {xs : List PyData} {d : PyData} (i : Nat) (he : Ev X ρ e d ρ1) (hz : xs.length < sizeLine) (hi : ρ1[i]? = some (.own fx xs) := by rfl)
    (hN : X.N[i]? = some x := by rfl) (hv : Vis X.env.scope x := by first | exact Or.inl rfl | exact Or.inr (Or.inl rfl) | exact Or.inr (Or.inr rfl)) (hi0 : isOwn ρ[i]? = true := by rfl) (hd : (x == ("__debug__" : Str)) = false := by decide) (hcd : (x == ("__classdict__" : Str)) = false := by decide)
    (hb : attributeBase (.Name x px) "append" X.env (eval (.Name x px) X.env) = eval (.Name x px) X.env := by rfl)
    (he2 : starEach (e :: []) X.env = (false, eval e X.env) :: starEach [] X.env := by rfl) (hpl : (backTo p2 (starEach [] X.env)).any (·.1) = false := by rfl)
    (hfew : ((backTo p2 (starEach (e :: []) X.env)).all (fun x => !x.1) && (backToKw p2 (keywordEach [] X.env)).all (fun x => x.1.isSome)
      && decide ((e :: []).length + ([] : List Keyword).length + (if ([] : List Keyword).isEmpty then 0 else 1) < 30)) = true := by rfl)
    (hline : (pp.endLine == p2.line) = true := by rfl)
    (hs : swapsWith (.Call (.Attribute (.Name x px) "append" pp) [e] [] p2) none pos.line X.env = pure false := by rfl) :
    ES X W ρ (.Expr (.Call (.Attribute (.Name x px) "append" pp) [e] [] p2) pos) (.nx (ρ1.set i (.own fx (xs ++ [d])))) := .append i he hi hz hN hv hi0 hd hcd hb he2 hpl hfew hline hs
theorem EvA.consC {e : Expr} {es : List Expr} {d d' : PyData} {as : List Arg} (he : Ev X ρ e d ρ1) (q : d = d') (hr : EvA X ρ1 es as ρ2)
    (hs : starEach (e :: es) X.env = (false, eval e X.env) :: starEach es X.env := by rfl) : EvA X ρ (e :: es) (.d d' :: as) ρ2 := .cons (he.cast q) hr hs
end
end DL
namespace K2
open PySem PySem.Spec PyProof.Rows L2 DL
section
variable {X : Cx} {ρ ρ' ρ1 ρ2 : List Den} {pos : Pos} {K : PySem.W.Frag} {W : WX}
/-- _law_draw(pool, e) -/
theorem drw {k k' : Nat} {p m : Int} {fl : Bool} {x : Str} {q qp : Pos} {e : Expr} (C : Cl X.prog X.w X.K X.mg X.base k "_law_draw" ["pool", "most"] RDraw) (hr : Rm k' X.A) (hk : k ≤ k') (i : Nat) (he : Ev X ρ e (.int m) ρ) (hm : 0 < m) (hs : Sm m)
    (hi : ρ[i]? = some (.own fl [.int p]) := by rfl) (hρ : ρ.set i (.own fl [.int (p / m)]) = ρ' := by rfl) (hg : Gl X "_law_draw" := by rfl) (hN : X.N[i]? = some x := by rfl) (hv : Vis X.env.scope x := by first | exact Or.inl rfl | exact Or.inr (Or.inl rfl) | exact Or.inr (Or.inr rfl)) (hd : (x == ("__debug__" : Str)) = false := by decide) (hcd : (x == ("__classdict__" : Str)) = false := by decide)
    (h1 : starEach [.Name x qp, e] X.env = (false, eval (.Name x qp) X.env) :: starEach [e] X.env := by rfl) (h2 : starEach [e] X.env = (false, eval e X.env) :: starEach [] X.env := by rfl) (hpl : (backTo pos (starEach [e] X.env)).any (·.1) = false := by rfl) :
    Ev X ρ (.Call (.Name "_law_draw" q) [.Name x qp, e] [] pos) (.int (p % m)) ρ' := by
  subst hρ
  refine Ev.cl C hr hk hg (EvA.consS i hi (EvA.cons he .nil h2) hN hv hd hcd h1) (as' := [.own true [.int (p / m)], .d (.int m)]) ?_ (.first rfl hi) (by decide) h1 hpl
  have e : argDen ρ (.sl i) = .own true [.int p] := by
    simp only [argDen, hi]
  rw [List.map_cons, e]
  exact RDraw.ok hm hs
end
section
variable {P : Program} {w : World} {K : PySem.W.Frag} {mg : Str → Option Value} {base : Heap} {cB fB cM fM : Addr}
/-- the pool behind i draws -/
def dv (p m : Int) : Nat → Int
  | 0 => p
  | i + 1 => dv p m i / m
def digs (p m : Int) (n : Nat) (s : Int) : List Int := (List.range n).map fun i => dv p m i % m - s
theorem digs_len {p m s : Int} {n : Nat} : (digs p m n s).length = n := by simp [digs]
theorem digs_b {p m s : Int} {n : Nat} (hm : 0 < m) {x : Int} (h : x ∈ digs p m n s) : -s ≤ x ∧ x < m - s := by
  obtain ⟨i, _, rfl⟩ := List.mem_map.mp h
  have h1 := Int.emod_nonneg (dv p m i) (Int.ne_of_gt hm)
  have h2 := Int.emod_lt_of_pos (dv p m i) hm
  omega
/-! ### _law_map -/
def rowP (p : Int) (wide : Nat) : Nat → Int
  | 0 => p
  | i + 1 => dv (rowP p wide i) 19 wide
def reachOf (d : Int) : Int := if d < 2 then 5 else 10 ^ 20
def lawMap (ns : List Int) (k wide high slow : Nat) : Mp :=
  let p := number ns k
  let p1 := rowP p wide high
  let reach := reachOf (p1 % 3)
  let m := 2 * reach + 1
  ⟨(List.range high).map fun i => digs (rowP p wide i) 19 wide 9, digs (p1 / 3) m high reach, slow * (dv (p1 / 3) m high % 9).toNat⟩
inductive RMap : List Den → Out → Prop
  | ok {ns : List Int} {k wide high slow : Nat} : ns.length ≤ 63 → k ≤ 100 → okLen wide = true → okLen high = true → slow ≤ 1 →
    RMap [.d (.list (ns.map .int)), .d (.int k), .d (.int wide), .d (.int high), .d (.int slow)] (.ret (encM (lawMap ns k wide high slow)) [.d (.list (ns.map .int)), .d (.int k), .d (.int wide), .d (.int high), .d (.int slow)])
theorem scMap : FnScope ["script", "k", "wide", "high", "slow", "pool", "lines", "i", "reach", "offset", "j"] ["script", "k", "wide", "high", "slow"] (defScope (top 19)) := ⟨rfl, rfl, rfl, by decide +kernel, rfl, by decide +kernel, by decide +kernel⟩
theorem reach_ix (p : Int) : atI [PyData.int 5, .int 5, .int (10 ^ 20)] (p % 3) = some (.int (reachOf (p % 3))) := by
  have h1 := Int.emod_nonneg p (show (3 : Int) ≠ 0 by decide)
  have h2 := Int.emod_lt_of_pos p (show (0 : Int) < 3 by decide)
  have : p % 3 = 0 ∨ p % 3 = 1 ∨ p % 3 = 2 := by omega
  rcases this with h | h | h <;> rw [h] <;> rfl
theorem reach_b (d : Int) : 5 ≤ reachOf d ∧ reachOf d ≤ 10 ^ 20 := by
  unfold reachOf
  split <;> decide
abbrev mapS (ns : List Int) (k wide high slow : Nat) (p : Int) (l i r : Den) : List Den := [.d (.list (ns.map .int)), .d (.int k), .d (.int wide), .d (.int high), .d (.int slow), .own false [.int p], l, i, r, .un, .un]
theorem range_get {n i x : Nat} (h : (List.range n)[i]? = some x) : i < n ∧ x = i := by
  have hi : i < n := by
    have := (List.getElem?_eq_some_iff.mp h).1
    simpa using this
  rw [List.getElem?_range hi] at h
  exact ⟨hi, (Option.some.inj h).symm⟩
theorem ok_map (D : Def K mg "_law_map" (top 19) ["script", "k", "wide", "high", "slow"]) (B : Bt mg) (C1 : Cl P w K mg base 1 "_law_number" ["script", "k"] RNumber) (C2 : Cl P w K mg base 1 "_law_draw" ["pool", "most"] RDraw) :
    Cl P w K mg base 2 "_law_map" ["script", "k", "wide", "high", "slow"] RMap := by
  refine .of (N := ["script", "k", "wide", "high", "slow", "pool", "lines", "i", "reach", "offset", "j"]) D scMap (by decide) (fun as o h => by cases h <;> exact ⟨rfl, rfl⟩) ?_
  rintro X W ⟨f, cdv, A, outer, s, H, E, rfl⟩ hr tk po as o h
  cases h with | @ok ns k wide high slow hn hk hw hh hsl => ?_
  have hw' := okLen_le hw
  have hh' := okLen_le hh
  have c20 : CPow 10 20 := by unfold CPow; omega
  have s19 : Sm 19 := Sm.of (k := 10) (by decide)
  have s3 : Sm 3 := Sm.of (k := 10) (by decide)
  have s9 : Sm 9 := Sm.of (k := 10) (by decide)
  generalize hR : reachOf (rowP (number ns k) wide high % 3) = R
  refine ⟨.ret (encM (lawMap ns k wide high slow)) _, rfl, Ex.cons (ES.stO 5 scMap.nd (EvO.li1 (Ev.cl C1 hr (by decide) rfl (EvA.cons (.nm 0) (EvA.cons (.nm 1) .nil)) (.ok hn hk) (.none rfl)))) <|
    Ex.cons (ES.stO 6 scMap.nd .li0) <|
    Ex.cons (ES.loop1 7 (List.range high) (fun i => mapS ns k wide high slow (rowP (number ns k) wide i) (.own false ((List.range i).map fun i => encV (digs (rowP (number ns k) wide i) 19 wide 9))) .un .un) scMap.nd rfl po (EvI.rng rfl B.range (.nm 3) (by omega)) ?_ ?_ rfl) <|
    Ex.cons (ES.st 8 scMap.nd (Ev.ixL (Ev.li3 .int .int (Ev.pow .int .int c20)) (drw C2 hr (by decide) 5 .int (by decide) s3) ((reach_ix _).trans (by rw [List.length_range, hR])))) <|
    Ex.cons (ES.st 9 scMap.nd (Ev.tupO rfl rfl B.tuple (LcC.ev (own := [("i", 7)]) (LcC.go (List.range high) (fun i => .int (dv (rowP (number ns k) wide high / 3) (2 * R + 1) i % (2 * R + 1) - R))
      (fun i => mapS ns k wide high slow (dv (rowP (number ns k) wide high / 3) (2 * R + 1) i) (.own false ((List.range high).map fun i => encV (digs (rowP (number ns k) wide i) 19 wide 9))) .un (.d (.int R)))
      (EvI.rng rfl B.range (.nm 3) (by omega)) ?_ ?_ ?_ rfl) rfl scMap.nd (blkOk_by rfl)))) <|
    Ex.weak (.of (.same (.same (.same (.same (.same (.same (.frz (.same (.same (.same (.same .nil)))))))))))) <|
    Ex.one (ES.ret (Ev.cast (Ev.tu3 (Ev.tupOf (k := true) rfl rfl B.tuple (.nm 6)) (.nm 9) (Ev.mul (.nm 4) (drw C2 hr (by decide) 5 .int (by decide) s9) ?_)) ?_))⟩
  · exact .same (.same (.same (.same (.same (.same (.same (.same (.same (.same (.same .nil))))))))))
  · intro i x hx
    obtain ⟨hi, rfl⟩ := range_get hx
    generalize hp : rowP (number ns k) wide x = p
    refine ⟨_, Ex.one (ES.app 6 (Ev.cast (d' := encV (digs p 19 wide 9)) (Ev.tupO rfl rfl B.tuple (LcC.ev (own := [("j", 10)]) (LcC.go (ρ3 := mapS ns k wide high slow (dv p 19 wide) (.own false ((List.range x).map fun i => encV (digs (rowP (number ns k) wide i) 19 wide 9))) (.d (.int x)) .un) (List.range wide) (fun j => .int (dv p 19 j % 19 - 9))
      (fun j => mapS ns k wide high slow (dv p 19 j) (.own false ((List.range x).map fun i => encV (digs (rowP (number ns k) wide i) 19 wide 9))) (.d (.int x)) .un)
      (EvI.rng rfl B.range (.nm 2) (by omega)) ?_ ?_ ?_ ?_) rfl scMap.nd (blkOk_by rfl))) ?_) ?_), ?_⟩
    · exact .same (.same (.same (.same (.same (.same (.same (.same (.same (.same (.same .nil))))))))))
    · simp; omega
    · intro j y hy
      refine .p1S 10 scMap.nd ?_ (Agr.set (i := 10) (d := .d (.int y)) .refl (by decide))
      rintro Y ⟨_, _, _, _, _, rfl⟩
      exact .sub (drw C2 hr (by decide) 5 .int (by decide) s19) .int
    · rw [List.length_range]
    · simp [encV, digs]
    · rw [List.length_map, List.length_range, sizeLine_eq]
      omega
    · show WkL _ (mapS ns k wide high slow (dv (rowP (number ns k) wide x) 19 wide) (.own false ((List.range (x + 1)).map fun i => encV (digs (rowP (number ns k) wide i) 19 wide 9))) .un .un)
      rw [List.range_succ, List.map_append, List.map_cons, List.map_nil, hp]
      exact .same (.same (.same (.same (.same (.same (.same (.un rfl (.same (.same (.same .nil))))))))))
  · rw [List.length_range]
    exact .same (.same (.same (.same (.same (.same (.same (.same (.same (.same (.same .nil))))))))))
  · simp; omega
  · intro i x hx
    have hb := reach_b (rowP (number ns k) wide high % 3)
    rw [hR] at hb
    refine .p1S 7 scMap.nd ?_ (Agr.set (i := 7) (d := .d (.int x)) .refl (by decide))
    rintro Y ⟨_, _, _, _, _, rfl⟩
    refine .sub (drw C2 hr (by decide) 5 (.add (.mul .int (.nm 8) ?_) .int) (by omega) ?_) (.nm 8)
    · exact Sm.mul (Sm.of (k := 10) (by decide)) (sm_of (e := 100) (by omega) (Int.lt_of_le_of_lt hb.2 (by decide)) (by decide))
    · exact sm_of (e := 100) (by omega) (by
        have : (2 : Int) * 10 ^ 20 + 1 < 2 ^ 100 := by decide
        omega) (by decide)
  · refine Sm.mul (Sm.of (k := 10) (by have : (slow : Int).natAbs = slow := Int.natAbs_natCast slow; omega)) (sm_of (e := 10) (Int.emod_nonneg _ (by decide)) ?_ (by decide))
    exact Int.lt_trans (Int.emod_lt_of_pos _ (by decide)) (by decide)
  · have e9 : ∀ x : Int, (slow : Int) * (x % 9) = ((slow * (x % 9).toNat : Nat) : Int) := fun x => by
      rw [Int.natCast_mul, Int.toNat_of_nonneg (Int.emod_nonneg x (by decide))]
    simp only [encM, encR, lawMap, hR, List.length_range, e9]
    simp [encV, digs, Function.comp_def]
end
end K2

namespace K2
/-! ### the plain law: maps -/
theorem dot_cons (a x : Int) (r v : List Int) : dot (a :: r) (x :: v) = a * x + dot r v := by simp [dot]
theorem dot_nil_l (v : List Int) : dot [] v = 0 := by simp [dot]
theorem dot_nil_r (v : List Int) : dot v [] = 0 := by simp [dot]
theorem dot_zero : ∀ (r : List Int) (n : Nat), dot r (List.replicate n 0) = 0
  | [], _ => dot_nil_l _
  | _ :: _, 0 => dot_nil_r _
  | a :: r, n + 1 => by rw [List.replicate_succ, dot_cons, dot_zero r n]; simp
/-- the j-th unit vector -/
def eV (n j : Nat) : List Int := (List.range n).map fun i => if i = j then 1 else 0
theorem eV_succ0 (n : Nat) : eV (n + 1) 0 = 1 :: List.replicate n 0 := by
  unfold eV
  rw [List.range_succ_eq_map, List.map_cons, List.map_map]
  congr 1
  refine List.ext_getElem (by simp) fun i h1 h2 => by simp
theorem eV_succ (n j : Nat) : eV (n + 1) (j + 1) = 0 :: eV n j := by
  unfold eV
  rw [List.range_succ_eq_map, List.map_cons, List.map_map]
  congr 1
  refine List.map_congr_left fun i _ => by simp
theorem eV_len (n j : Nat) : (eV n j).length = n := by simp [eV]
theorem dot_eV : ∀ (r : List Int) (j : Nat), dot r (eV r.length j) = r.getD j 0
  | [], j => by simp [dot]
  | a :: r, 0 => by rw [List.length_cons, eV_succ0, dot_cons, dot_zero]; simp
  | a :: r, j + 1 => by rw [List.length_cons, eV_succ, dot_cons, dot_eV r j]; simp
theorem row_ext {r r' : List Int} {s s' : Int} (hl : r.length = r'.length) (h : ∀ c : List Int, c.length = r.length → dot r c + s = dot r' c + s') : r = r' ∧ s = s' := by
  have h0 := h (List.replicate r.length 0) (by simp)
  rw [dot_zero, dot_zero] at h0
  have hs : s = s' := by omega
  refine ⟨List.ext_getElem hl fun j h1 h2 => ?_, hs⟩
  have h3 := h (eV r.length j) (eV_len _ _)
  rw [dot_eV] at h3
  rw [hl, dot_eV, hs] at h3
  simp only [List.getD_eq_getElem?_getD, List.getElem?_eq_getElem h1, List.getElem?_eq_getElem h2, Option.getD_some] at h3
  omega
theorem Mp.eq {m n : Mp} (h1 : m.rows = n.rows) (h2 : m.off = n.off) (h3 : m.hv = n.hv) : m = n := by
  cases m; cases n; cases h1; cases h2; cases h3; rfl
theorem rows_ext : ∀ {R R' : List (List Int)} {o o' : List Int} {w : Nat}, R.length = o.length → R'.length = o'.length → R.length = R'.length → (∀ r ∈ R, r.length = w) → (∀ r ∈ R', r.length = w) →
    (∀ c : List Int, c.length = w → ((R.zip o).map fun p => dot p.1 c + p.2) = (R'.zip o').map fun p => dot p.1 c + p.2) → R = R' ∧ o = o'
  | [], R', o, o', w, h1, h2, h3, _, _, _ => by
    cases R' with
    | cons a b => simp at h3
    | nil =>
      cases o with
      | cons a b => simp at h1
      | nil =>
        cases o' with
        | cons a b => simp at h2
        | nil => exact ⟨rfl, rfl⟩
  | r :: R, R', o, o', w, h1, h2, h3, h4, h5, h6 => by
    cases R' with
    | nil => simp at h3
    | cons r' R' =>
      cases o with
      | nil => simp at h1
      | cons s o =>
        cases o' with
        | nil => simp at h2
        | cons s' o' =>
          have e := row_ext (r := r) (r' := r') (s := s) (s' := s') (by rw [h4 r (by simp), h5 r' (by simp)]) fun c hc => by
            have := h6 c (by rw [hc, h4 r (by simp)])
            simp only [List.zip_cons_cons, List.map_cons, List.cons.injEq] at this
            exact this.1
          have e2 := rows_ext (R := R) (R' := R') (o := o) (o' := o') (w := w) (by simpa using h1) (by simpa using h2) (by simpa using h3) (fun x hx => h4 x (by simp [hx])) (fun x hx => h5 x (by simp [hx])) fun c hc => by
            have := h6 c hc
            simp only [List.zip_cons_cons, List.map_cons, List.cons.injEq] at this
            exact this.2
          rw [e.1, e.2, e2.1, e2.2]
          exact ⟨rfl, rfl⟩
theorem Wf.ext {m n : Mp} {w h : Nat} (a : Wf m w h) (b : Wf n w h) (hv : m.hv = n.hv) (e : ∀ c : List Int, c.length = w → act m c = act n c) : m = n := by
  obtain ⟨h1, h2⟩ := rows_ext (by rw [a.rl, a.ol]) (by rw [b.rl, b.ol]) (by rw [a.rl, b.rl]) a.cl b.cl e
  exact Mp.eq h1 h2 hv
/-! #### the map of two -/
theorem Wf.after {f g : Mp} {w h h' : Nat} (a : Wf f w h) (b : Wf g h h') : Wf (afterM f g) w h' := by
  refine ⟨by simp [afterM, b.rl], by simp [afterM, b.rl, b.ol], fun r hr => ?_, a.w1, b.h1⟩
  simp only [afterM, List.mem_map] at hr
  obtain ⟨x, _, rfl⟩ := hr
  simp [colsOf, a.wd]
theorem dot_lin (a : Int) : ∀ (x B c : List Int), x.length = B.length → x.length = c.length → dot (List.zipWith (fun y b => a * y + b) x B) c = a * dot x c + dot B c
  | [], [], [], _, _ => by simp [dot]
  | y :: x, b :: B, z :: c, h1, h2 => by
    rw [List.zipWith_cons_cons, dot_cons, dot_cons, dot_cons, dot_lin a x B c (by simpa using h1) (by simpa using h2)]
    grind
theorem comb_cons (a : Int) (x : List Int) (r : List Int) (R : List (List Int)) (w : Nat) (hx : x.length = w) : (colsOf (x :: R) w).map (fun c => dot (a :: r) c) = List.zipWith (fun y b => a * y + b) x ((colsOf R w).map fun c => dot r c) := by
  refine List.ext_getElem (by simp [colsOf, hx]) fun j h1 h2 => ?_
  have hj : j < x.length := by simpa [colsOf, hx] using h1
  simp only [List.getElem_map, List.getElem_zipWith, colsOf, List.getElem_range, col, List.map_cons, dot_cons]
  simp [List.getD_eq_getElem?_getD, List.getElem?_eq_getElem hj]
theorem comb_nil (r : List Int) (w : Nat) : (colsOf [] w).map (fun c => dot r c) = List.replicate w 0 := by
  refine List.ext_getElem (by simp [colsOf]) fun j h1 h2 => ?_
  simp [colsOf, col, dot_nil_r]
theorem dot_comm : ∀ (r v : List Int), dot r v = dot v r
  | [], v => by rw [dot_nil_l, dot_nil_r]
  | _ :: _, [] => by rw [dot_nil_l, dot_nil_r]
  | a :: r, x :: v => by rw [dot_cons, dot_cons, dot_comm r v, Int.mul_comm]
theorem dot_comb : ∀ (r : List Int) (R : List (List Int)) (w : Nat) (c : List Int), r.length = R.length → (∀ x ∈ R, x.length = w) → c.length = w → dot ((colsOf R w).map fun k => dot r k) c = dot r (R.map fun x => dot x c)
  | [], [], w, c, _, _, hc => by rw [comb_nil, dot_comm, dot_zero, dot_nil_l]
  | a :: r, x :: R, w, c, h, hR, hc => by
    have hx := hR x (by simp)
    rw [comb_cons a x r R w hx, dot_lin a x _ c (by simp [colsOf, hx]) (by rw [hx, hc]), List.map_cons, dot_cons, dot_comb r R w c (by simpa using h) (fun y hy => hR y (by simp [hy])) hc]
theorem dot_add : ∀ (r u v : List Int), u.length = v.length → dot r (List.zipWith (· + ·) u v) = dot r u + dot r v
  | [], u, v, _ => by simp [dot_nil_l]
  | a :: r, [], [], _ => by simp [dot_nil_r]
  | a :: r, x :: u, y :: v, h => by
    rw [List.zipWith_cons_cons, dot_cons, dot_cons, dot_cons, dot_add r u v (by simpa using h)]
    grind
theorem act_zip (f : Mp) (c : List Int) : act f c = List.zipWith (· + ·) (f.rows.map fun x => dot x c) f.off := by
  unfold act
  rw [List.zipWith_map_left, List.map_zip_eq_zipWith]
  rfl
theorem act_after {f g : Mp} {w h h' : Nat} (a : Wf f w h) (b : Wf g h h') {c : List Int} (hc : c.length = w) : act (afterM f g) c = act g (act f c) := by
  have e := act_zip f c
  generalize act f c = v at e ⊢
  unfold act afterM
  refine List.ext_getElem (by simp [b.rl, b.ol]) fun i h1 h2 => ?_
  simp only [List.getElem_map, List.getElem_zip]
  have hi : i < g.rows.length := by
    simp only [List.length_map, List.length_zip] at h2
    omega
  have hr := b.cl _ (List.getElem_mem hi)
  simp only [e]
  have e1 := dot_add g.rows[i] (f.rows.map fun x => dot x c) f.off (by simp [a.rl, a.ol])
  have e2 := dot_comb g.rows[i] f.rows w c (by rw [hr, a.rl]) a.cl hc
  rw [← a.wd] at e2
  omega
theorem afterM_assoc {f g k : Mp} {w h h' h'' : Nat} (a : Wf f w h) (b : Wf g h h') (c : Wf k h' h'') : afterM (afterM f g) k = afterM f (afterM g k) := by
  refine ((a.after b).after c).ext (a.after (b.after c)) rfl fun v hv => ?_
  rw [act_after (a.after b) c hv, act_after a b hv, act_after a (b.after c) hv, act_after b c (a.act_len v)]
/-! #### sizes -/
theorem natAbs_sum_mul {k l : Nat} {a b : Int} (ha : a.natAbs < 2 ^ k) (hb : b.natAbs < 2 ^ l) : (a * b).natAbs ≤ 2 ^ (k + l) := by
  rw [Int.natAbs_mul, Nat.pow_add]
  exact Nat.mul_le_mul (Nat.le_of_lt ha) (Nat.le_of_lt hb)
theorem dot_b {k l : Nat} : ∀ (r v : List Int), (∀ x ∈ r, x.natAbs < 2 ^ k) → (∀ x ∈ v, x.natAbs < 2 ^ l) → (dot r v).natAbs ≤ r.length * 2 ^ (k + l)
  | [], v, _, _ => by simp [dot]
  | _ :: _, [], _, _ => by simp [dot]
  | a :: r, x :: v, h1, h2 => by
    have ih := dot_b r v (fun y hy => h1 y (by simp [hy])) (fun y hy => h2 y (by simp [hy]))
    have h3 := natAbs_sum_mul (h1 a (by simp)) (h2 x (by simp))
    rw [dot_cons, List.length_cons, Nat.succ_mul]
    omega
theorem pow3 (n : Nat) : 2 ^ (n + 2) = 4 * 2 ^ n ∧ 2 ^ (n + 3) = 8 * 2 ^ n := by
  constructor <;> rw [Nat.pow_add] <;> omega
theorem dot_sz {k l n : Nat} {r v : List Int} (h1 : ∀ x ∈ r, x.natAbs < 2 ^ k) (h2 : ∀ x ∈ v, x.natAbs < 2 ^ l) (hn : r.length ≤ 3) : (dot r v).natAbs ≤ 3 * 2 ^ (k + l) :=
  Nat.le_trans (dot_b r v h1 h2) (Nat.mul_le_mul_right _ hn)
theorem Sz.after {f g : Mp} {w h h' kf kg : Nat} (a : Wf f w h) (b : Wf g h h') (sa : Sz kf f) (sb : Sz kg g) : Sz (kf + kg + 3) (afterM f g) := by
  have p := (pow3 (kf + kg)).2
  have hp : 0 < 2 ^ (kf + kg) := Nat.two_pow_pos _
  have hh := okLen_le a.h1
  have q : 2 ^ kg ≤ 2 ^ (kf + kg) := Nat.pow_le_pow_right (by decide) (by omega)
  refine ⟨fun r hr x hx => ?_, fun x hx => ?_, sb.hv⟩
  · simp only [afterM, List.mem_map] at hr
    obtain ⟨y, hy, rfl⟩ := hr
    simp only [List.mem_map, colsOf, List.mem_range, a.wd] at hx
    obtain ⟨_, ⟨j, hj, rfl⟩, rfl⟩ := hx
    have := dot_sz (k := kg) (l := kf) (n := 0) (r := y) (v := col f.rows j) (sb.r y hy) (fun z hz => by
      simp only [col, List.mem_map] at hz
      obtain ⟨r, hr, rfl⟩ := hz
      have hl : j < r.length := by rw [a.cl r hr]; exact hj
      have e : r.getD j 0 = r[j] := by simp [List.getD_eq_getElem?_getD, List.getElem?_eq_getElem hl]
      rw [e]
      exact sa.r r hr _ (List.getElem_mem hl)) (by rw [b.cl y hy]; exact hh.2)
    rw [Nat.add_comm kg kf] at this
    omega
  · simp only [afterM, List.mem_map] at hx
    obtain ⟨y, hy, rfl⟩ := hx
    have hz := List.of_mem_zip hy
    have := dot_sz (k := kg) (l := kf) (n := 0) (r := y.1) (v := f.off) (sb.r y.1 hz.1) sa.o (by rw [b.cl y.1 hz.1]; exact hh.2)
    have h2 := sb.o y.2 hz.2
    rw [Nat.add_comm kg kf] at this
    omega
end K2

namespace K2
/-! ### the plain law: _law_then -/
def stepRow (row : List Int) (a : Int) (other : List Int) : List Int := (row.zip other).map fun p => p.1 + a * p.2
abbrev Tri := Int × (List Int × Int)
def inStep (st : List Int × Int) (t : Tri) : List Int × Int := (stepRow st.1 t.1 t.2.1, st.2 + t.1 * t.2.2)
def inner (w : Nat) (s : Int) (ts : List Tri) : List Int × Int := ts.foldl inStep (List.replicate w 0, s)
def tri (r : List Int) (f : Mp) : List Tri := r.zip (f.rows.zip f.off)
theorem stepRow_len {row other : List Int} {a : Int} (h : row.length = other.length) : (stepRow row a other).length = row.length := by simp [stepRow, h]
theorem stepRow_eq (row other : List Int) (a : Int) : stepRow row a other = List.zipWith (fun b c => b + a * c) row other := by
  unfold stepRow
  rw [List.map_zip_eq_zipWith]
  rfl
theorem fold_in : ∀ (r : List Int) (R : List (List Int)) (o : List Int) (w : Nat) (row : List Int) (s : Int), r.length = R.length → R.length = o.length → (∀ x ∈ R, x.length = w) → row.length = w →
    (r.zip (R.zip o)).foldl inStep (row, s) = (List.zipWith (· + ·) row ((colsOf R w).map fun c => dot r c), s + dot r o)
  | [], [], [], w, row, s, _, _, _, hr => by
    rw [comb_nil]
    have e : List.zipWith (· + ·) row (List.replicate w 0) = row := by
      refine List.ext_getElem (by simp [hr]) fun j h1 h2 => by simp
    rw [e]
    simp [dot]
  | a :: r, x :: R, o :: os, w, row, s, h1, h2, hR, hr => by
    have hx := hR x (by simp)
    rw [List.zip_cons_cons, List.zip_cons_cons, List.foldl_cons]
    show (r.zip (R.zip os)).foldl inStep (stepRow row a x, s + a * o) = _
    rw [fold_in r R os w _ _ (by simpa using h1) (by simpa using h2) (fun y hy => hR y (by simp [hy])) (by rw [stepRow_len (by rw [hr, hx]), hr]), comb_cons a x r R w hx, dot_cons, stepRow_eq]
    refine Prod.ext ?_ (by show s + a * o + dot r os = s + (a * o + dot r os); omega)
    refine List.ext_getElem (by simp [hx, hr, colsOf]) fun j h3 h4 => ?_
    simp only [List.getElem_zipWith]
    omega
theorem inner_eq {f : Mp} {w h : Nat} (a : Wf f w h) {r : List Int} (hr : r.length = h) (s : Int) : inner w s (tri r f) = ((colsOf f.rows w).map fun c => dot r c, dot r f.off + s) := by
  unfold inner tri
  rw [fold_in r f.rows f.off w _ s (by rw [hr, a.rl]) (by rw [a.rl, a.ol]) a.cl (by simp)]
  refine Prod.ext ?_ (by show s + dot r f.off = dot r f.off + s; omega)
  refine List.ext_getElem (by simp [colsOf]) fun j h3 h4 => by simp
/-! ### the plain law: halving -/
theorem halveN_eq : ∀ (n : Nat) (v : List Int), halveN n v = v.map fun x => x / 2 ^ n
  | 0, v => by simp [halveN]
  | n + 1, v => by
    rw [halveN, halveN_eq n v, List.map_map]
    refine List.map_congr_left fun x _ => ?_
    show x / 2 ^ n / 2 = x / 2 ^ (n + 1)
    rw [Int.pow_succ, Int.ediv_ediv_of_nonneg (Int.pow_nonneg (by decide))]
/-! ### chains -/
inductive Ch : Nat → List Mp → Nat → Prop
  | nil {w : Nat} : Ch w [] w
  | cons {w h h' : Nat} {m : Mp} {ms : List Mp} : Wf m w h → Ch h ms h' → Ch w (m :: ms) h'
/-- all but the last one without halvings -/
def Flat (ms : List Mp) : Prop := ∀ i m, ms[i]? = some m → i + 1 < ms.length → m.hv = 0
structure Chain (w : Nat) (ms : List Mp) (h : Nat) : Prop where
  ch : Ch w ms h
  ne : ms ≠ []
  sz : ∀ m ∈ ms, Sz 70 m
  fl : Flat ms
  len : ms.length ≤ 12
def prodL : List Mp → Mp
  | [] => ⟨[], [], 0⟩
  | m :: ms => ms.foldl afterM m
def prodR : List Mp → Mp
  | [] => ⟨[], [], 0⟩
  | [m] => m
  | m :: n :: ms => afterM m (prodR (n :: ms))
theorem Flat.tail {m : Mp} {ms : List Mp} (h : Flat (m :: ms)) : Flat ms := fun i x hx hl => h (i + 1) x (by simpa using hx) (by simp; omega)
/-- along the fold -/
theorem fold_at : ∀ (rest : List Mp) (acc : Mp) (k w h h' : Nat), Wf acc w h → Sz k acc → Ch h rest h' → (∀ m ∈ rest, Sz 70 m) → (rest ≠ [] → acc.hv = 0) → Flat rest →
    ∀ i, i ≤ rest.length → ∃ h1, Wf ((rest.take i).foldl afterM acc) w h1 ∧ Sz (k + 73 * i) ((rest.take i).foldl afterM acc) ∧ (i < rest.length → ((rest.take i).foldl afterM acc).hv = 0) ∧ Ch h1 (rest.drop i) h'
  | rest, acc, k, w, h, h', a, s, c, sz, hv, fl, 0, _ => ⟨h, a, s, fun hl => hv (fun e => by rw [e] at hl; simp at hl), c⟩
  | m :: rest, acc, k, w, h, h', a, s, c, sz, hv, fl, i + 1, hi => by
    cases c with
    | cons wm c =>
      obtain ⟨h1, e1, e2, e3, e4⟩ := fold_at rest (afterM acc m) (k + 70 + 3) w _ h' (a.after wm) (Sz.after a wm s (sz m (by simp))) c (fun x hx => sz x (by simp [hx])) (fun hne => fl 0 m rfl (by
        cases rest with
        | nil => exact absurd rfl hne
        | cons _ _ => simp)) fl.tail i (by simpa using hi)
      refine ⟨h1, e1, ?_, fun hl => e3 (by simpa using hl), e4⟩
      have : k + 70 + 3 + 73 * i = k + 73 * (i + 1) := by omega
      rw [← this]
      exact e2
theorem Sz.mono {k l : Nat} {m : Mp} (s : Sz k m) (h : k ≤ l) : Sz l m := by
  have p : 2 ^ k ≤ 2 ^ l := Nat.pow_le_pow_right (by decide) h
  exact ⟨fun r hr x hx => Nat.lt_of_lt_of_le (s.r r hr x hx) p, fun x hx => Nat.lt_of_lt_of_le (s.o x hx) p, s.hv⟩
theorem foldl_hv : ∀ (rest : List Mp) (acc : Mp) (x : Mp), rest.getLast? = some x → (rest.foldl afterM acc).hv = x.hv
  | [m], acc, x, h => by simp at h; subst h; rfl
  | m :: n :: rest, acc, x, h => by
    rw [List.foldl_cons]
    exact foldl_hv (n :: rest) _ x (by simpa using h)
/-- the whole -/
theorem Chain.prod {w h : Nat} {ms : List Mp} (c : Chain w ms h) : Wf (prodL ms) w h ∧ Sz (70 + 73 * 12) (prodL ms) := by
  obtain ⟨ch, ne, sz, fl, len⟩ := c
  cases ch with
  | nil => exact absurd rfl ne
  | @cons _ h0 _ m rest wm ch =>
    obtain ⟨h1, e1, e2, e3, e4⟩ := fold_at rest m 70 w h0 h wm (sz m (by simp)) ch (fun x hx => sz x (by simp [hx])) (fun hne => fl 0 m rfl (by
      cases rest with
      | nil => exact absurd rfl hne
      | cons _ _ => simp)) fl.tail rest.length (Nat.le_refl _)
    rw [List.take_length] at e1 e2
    rw [List.drop_length] at e4
    cases e4
    exact ⟨e1, e2.mono (by simp at len; omega)⟩
theorem prodR_wf : ∀ {ms : List Mp} {w h : Nat}, Ch w ms h → ms ≠ [] → Wf (prodR ms) w h
  | [m], w, h, .cons wm c, _ => by cases c; exact wm
  | m :: n :: ms, w, h, .cons wm c, _ => wm.after (prodR_wf c (by simp))
theorem foldl_R : ∀ {ms : List Mp} {m : Mp} {w h0 h : Nat}, Wf m w h0 → Ch h0 ms h → ms ≠ [] → ms.foldl afterM m = afterM m (prodR ms)
  | [n], m, w, h0, h, wm, c, _ => rfl
  | n :: k :: ms, m, w, h0, h, wm, .cons wn c, _ => by
    rw [List.foldl_cons, foldl_R (wm.after wn) c (by simp)]
    exact afterM_assoc wm wn (prodR_wf c (by simp))
theorem prod_LR {ms : List Mp} {w h : Nat} (c : Ch w ms h) : prodL ms = prodR ms := by
  cases c with
  | nil => rfl
  | @cons _ h0 _ m rest wm ch =>
    cases rest with
    | nil => rfl
    | cons n ms => exact foldl_R wm ch (by simp)
end K2

namespace K2
/-! ### the plain law: cells led -/
def runC (c : List Int) (ms : List Mp) : List Int := ms.foldl (fun c m => applied m c) c
def Szc (k : Nat) (c : List Int) : Prop := ∀ x ∈ c, x.natAbs < 2 ^ k
theorem applied_flat {m : Mp} (h : m.hv = 0) (c : List Int) : applied m c = act m c := by
  unfold applied
  rw [h]
  rfl
theorem applied_len {m : Mp} {w h : Nat} (W : Wf m w h) (c : List Int) : (applied m c).length = h := by
  unfold applied
  rw [halveN_len, W.act_len]
theorem div_pow_abs (x : Int) (n : Nat) : (x / 2 ^ n).natAbs ≤ x.natAbs := by
  have h0 : (0 : Int) < 2 ^ n := Int.pow_pos (by decide)
  have h1 : x / 2 ^ n * 2 ^ n ≤ x := Int.ediv_mul_le x (Int.ne_of_gt h0)
  have h2 : x < x / 2 ^ n * 2 ^ n + 2 ^ n := Int.lt_ediv_add_one_mul_self x h0 |> fun z => by
    rw [Int.add_mul, Int.one_mul] at z
    exact z
  generalize hd : x / 2 ^ n = d at *
  generalize hp : (2 : Int) ^ n = p at *
  rcases Int.lt_or_le d 0 with hn | hn
  · have h3 : (d + 1) * p ≤ 0 := by
      have := Int.mul_nonneg (show 0 ≤ -(d + 1) by omega) (Int.le_of_lt h0)
      rw [Int.neg_mul] at this
      omega
    have h4 : d * p ≤ d := by
      have := Int.mul_nonneg (show 0 ≤ -d by omega) (show 0 ≤ p - 1 by omega)
      rw [Int.mul_sub, Int.mul_one, Int.neg_mul] at this
      omega
    rw [Int.add_mul, Int.one_mul] at h3
    have h5 : (x / 1 : Int) ≤ x := by rw [Int.ediv_one]; exact Int.le_refl _
    rcases Int.lt_or_le x 0 with hx | hx
    · -- d ≥ x, as p ≥ 1
      have h6 : x ≤ d := by
        rcases Int.lt_or_le d x with q | q
        · exfalso
          have : d * p + p ≤ x * 1 := by
            have q1 : (d + 1) * p ≤ (d + 1) * 1 := by
              have := Int.mul_nonneg (show 0 ≤ -(d + 1) by omega) (show 0 ≤ p - 1 by omega)
              rw [Int.mul_sub, Int.mul_one, Int.neg_mul] at this
              omega
            rw [Int.add_mul, Int.one_mul] at q1
            omega
          omega
        · exact q
      omega
    · omega
  · have h4 : d ≤ d * p := by
      have := Int.mul_nonneg hn (show 0 ≤ p - 1 by omega)
      rw [Int.mul_sub, Int.mul_one] at this
      omega
    omega
theorem Szc.applied {k l : Nat} {m : Mp} {w h : Nat} {c : List Int} (W : Wf m w h) (s : Sz l m) (sc : Szc k c) : Szc (l + k + 3) (applied m c) := by
  have p := (pow3 (l + k)).2
  have hp : 0 < 2 ^ (l + k) := Nat.two_pow_pos _
  have hw := okLen_le W.w1
  have q : 2 ^ l ≤ 2 ^ (l + k) := Nat.pow_le_pow_right (by decide) (by omega)
  intro x hx
  unfold K2.applied at hx
  rw [halveN_eq] at hx
  obtain ⟨y, hy, rfl⟩ := List.mem_map.mp hx
  have h1 := div_pow_abs y m.hv
  obtain ⟨z, hz, rfl⟩ := List.mem_map.mp hy
  have hz' := List.of_mem_zip hz
  have h2 := dot_sz (k := l) (l := k) (n := 0) (r := z.1) (v := c) (s.r _ hz'.1) sc (by rw [W.cl _ hz'.1]; exact hw.2)
  have h3 := s.o _ hz'.2
  omega
theorem run_R : ∀ {ms : List Mp} {w h : Nat} {c : List Int}, Ch w ms h → ms ≠ [] → Flat ms → c.length = w → applied (prodR ms) c = runC c ms
  | [m], w, h, c, _, _, _, _ => rfl
  | m :: n :: ms, w, h, c, .cons wm ch, _, fl, hc => by
    have h0 : m.hv = 0 := fl 0 m rfl (by simp)
    have ih := run_R (c := act m c) ch (by simp) fl.tail (wm.act_len c)
    have e : runC c (m :: n :: ms) = runC (act m c) (n :: ms) := by
      unfold runC
      rw [List.foldl_cons, applied_flat h0]
    rw [e, ← ih]
    show halveN (prodR (n :: ms)).hv (act (afterM m (prodR (n :: ms))) c) = halveN (prodR (n :: ms)).hv (act (prodR (n :: ms)) (act m c))
    rw [act_after wm (prodR_wf ch (by simp)) hc]
theorem run_prod {ms : List Mp} {w h : Nat} {c : List Int} (C : Chain w ms h) (hc : c.length = w) : applied (prodL ms) c = runC c ms := by
  rw [prod_LR C.ch]
  exact run_R C.ch C.ne C.fl hc
theorem run_at : ∀ (ms : List Mp) (c : List Int) (k w h : Nat), Ch w ms h → (∀ m ∈ ms, Sz 70 m) → c.length = w → Szc k c → ∀ i, i ≤ ms.length → ∃ h1, (runC c (ms.take i)).length = h1 ∧ Szc (k + 73 * i) (runC c (ms.take i)) ∧ Ch h1 (ms.drop i) h
  | ms, c, k, w, h, ch, _, hc, sc, 0, _ => ⟨w, hc, sc, ch⟩
  | m :: ms, c, k, w, h, .cons wm ch, sz, hc, sc, i + 1, hi => by
    obtain ⟨h1, e1, e2, e3⟩ := run_at ms (applied m c) (70 + k + 3) _ h ch (fun x hx => sz x (by simp [hx])) (applied_len wm c) (Szc.applied wm (sz m (by simp)) sc) i (by simpa using hi)
    refine ⟨h1, e1, ?_, e3⟩
    have : 70 + k + 3 + 73 * i = k + 73 * (i + 1) := by omega
    rw [← this]
    exact e2
/-! ### the plain law: shifts -/
theorem unit_row {n : Nat} {r : List Int} (h : r ∈ unit n) : ∃ i, i < n ∧ r = (List.range n).map fun j => if i = j then 1 else 0 := by
  simp only [unit, List.mem_map, List.mem_range] at h
  obtain ⟨i, hi, rfl⟩ := h
  exact ⟨i, hi, rfl⟩
theorem Wf.shift {v : List Int} (h : okLen v.length = true) : Wf (shiftM v) v.length v.length :=
  ⟨by simp [shiftM, unit], rfl, fun r hr => by
    obtain ⟨i, _, rfl⟩ := unit_row hr
    simp, h, h⟩
theorem Sz.shift {k : Nat} {v : List Int} (h : Szc k v) (hk : 1 ≤ k) : Sz k (shiftM v) := ⟨fun r hr x hx => by
  obtain ⟨i, _, rfl⟩ := unit_row hr
  simp only [List.mem_map] at hx
  obtain ⟨j, _, rfl⟩ := hx
  have : 2 ^ 1 ≤ 2 ^ k := Nat.pow_le_pow_right (by decide) hk
  split <;> simp <;> omega, h, Nat.zero_le _⟩
theorem eV_sym (n i : Nat) : ((List.range n).map fun j => if i = j then (1 : Int) else 0) = eV n i := by
  unfold eV
  refine List.map_congr_left fun j _ => ?_
  by_cases h : i = j
  · simp [h]
  · have : ¬ j = i := fun e => h e.symm
    simp [h, this]
theorem act_shift {v c : List Int} (h : c.length = v.length) : act (shiftM v) c = List.zipWith (· + ·) c v := by
  rw [act_zip]
  congr 1
  refine List.ext_getElem (by simp [shiftM, unit, h]) fun i h1 h2 => ?_
  simp only [shiftM, unit, List.getElem_map, List.getElem_range]
  rw [eV_sym, ← h, dot_comm, dot_eV]
  simp [List.getD_eq_getElem?_getD, List.getElem?_eq_getElem h2]
theorem shift_shift {u v : List Int} (h : u.length = v.length) (hu : okLen u.length = true) : afterM (shiftM u) (shiftM v) = shiftM (List.zipWith (· + ·) u v) := by
  have hv : okLen v.length = true := h ▸ hu
  have hl : (List.zipWith (· + ·) u v).length = v.length := by simp [h]
  have wv : Wf (shiftM v) u.length v.length := by
    rw [h]
    exact .shift hv
  have wu : Wf (shiftM (List.zipWith (· + ·) u v)) u.length v.length := by
    have := Wf.shift (v := List.zipWith (· + ·) u v) (by rw [hl]; exact hv)
    rw [hl] at this
    rw [h]
    exact this
  refine ((Wf.shift hu).after wv).ext wu rfl fun c hc => ?_
  rw [act_after (Wf.shift hu) wv hc, act_shift hc, act_shift (by simp [hc, h]), act_shift (by rw [hl, hc, h])]
  refine List.ext_getElem (by simp [hc, h]) fun i h1 h2 => ?_
  simp only [List.getElem_zipWith]
  omega
theorem shift_zero_l {m : Mp} {w h : Nat} (W : Wf m w h) : afterM (shiftM (List.replicate w 0)) m = m := by
  have hw : okLen (List.replicate w (0 : Int)).length = true := by rw [List.length_replicate]; exact W.w1
  have w0 : Wf (shiftM (List.replicate w 0)) w w := by
    have := Wf.shift hw
    rwa [List.length_replicate] at this
  refine (w0.after W).ext W rfl fun c hc => ?_
  rw [act_after w0 W hc, act_shift (by simp [hc])]
  congr 1
  refine List.ext_getElem (by simp [hc]) fun i h1 h2 => by simp
theorem shift_r {m : Mp} {w h : Nat} {v : List Int} (W : Wf m w h) (hz : m.hv = 0) (hv : v.length = h) : afterM m (shiftM v) = ⟨m.rows, List.zipWith (· + ·) m.off v, 0⟩ := by
  have wv : Wf (shiftM v) h h := by
    have := Wf.shift (v := v) (by rw [hv]; exact W.h1)
    rwa [hv] at this
  have w2 : Wf ⟨m.rows, List.zipWith (· + ·) m.off v, 0⟩ w h := ⟨W.rl, by simp [W.ol, hv], W.cl, W.w1, W.h1⟩
  refine (W.after wv).ext w2 rfl fun c hc => ?_
  rw [act_after W wv hc, act_shift (by rw [W.act_len, hv]), act_zip, act_zip]
  refine List.ext_getElem (by simp [W.rl, W.ol, hv]) fun i h1 h2 => ?_
  simp only [List.getElem_zipWith]
  omega
theorem shift_zero_r {m : Mp} {w h : Nat} (W : Wf m w h) (hz : m.hv = 0) : afterM m (shiftM (List.replicate h 0)) = m := by
  rw [shift_r W hz (by simp)]
  refine Mp.eq rfl ?_ hz.symm
  refine List.ext_getElem (by simp [W.ol]) fun i h1 h2 => by simp
/-! ### the plain law: a move and its way back within a chain -/
theorem back_forth {v : List Int} (h : okLen v.length = true) : afterM (shiftM v) (shiftM (v.map fun x => -x)) = shiftM (List.replicate v.length 0) := by
  rw [shift_shift (by simp) h]
  congr 1
  refine List.ext_getElem (by simp) fun i h1 h2 => ?_
  simp only [List.getElem_zipWith, List.getElem_map, List.getElem_replicate]
  omega
end K2

namespace K2
open PySem PySem.Spec PyProof.Rows L2 DL
section
variable {P : Program} {w : World} {K : PySem.W.Frag} {mg : Str → Option Value} {base : Heap} {cB fB cM fM : Addr}
/-! ### _law_then -/
inductive RThen : List Den → Out → Prop
  | ok {f g : Mp} {w h h' kf kg : Nat} : Wf f w h → Wf g h h' → Sz kf f → Sz kg g → kf ≤ 1900 → kg ≤ 1900 → RThen [.d (encM f), .d (encM g)] (.ret (encM (afterM f g)) [.d (encM f), .d (encM g)])
abbrev thenN : List Str := ["first", "second", "lines", "offset", "line", "shift", "row", "a", "other", "x", "b", "c"]
theorem scThen : FnScope thenN ["first", "second"] (defScope (top 20)) := ⟨rfl, rfl, rfl, by decide +kernel, rfl, by decide +kernel, by decide +kernel⟩
def triD (t : Tri) : PyData := .tuple [.int t.1, encV t.2.1, .int t.2.2]
theorem zip_tri : ∀ (r : List Int) (R : List (List Int)) (o : List Int), List.zipWith (fun (d : PyData) (p : PyData × PyData) => PyData.tuple [d, p.1, p.2]) (r.map .int) ((R.map encV).zip (o.map .int)) = (r.zip (R.zip o)).map fun t => .tuple [.int t.1, encV t.2.1, .int t.2.2]
  | [], _, _ => rfl
  | _ :: _, [], _ => rfl
  | _ :: _, _ :: _, [] => rfl
  | a :: r, x :: R, s :: o => by
    simp only [List.map_cons, List.zip_cons_cons, List.zipWith_cons_cons]
    rw [zip_tri r R o]
theorem zip_row2 (r : List (List Int)) (v : List Int) : List.zipWith (fun d e => PyData.tuple [d, e]) (r.map encV) (v.map .int) = (r.zip v).map fun p => .tuple [encV p.1, .int p.2] := zip_row r v
abbrev thenS (f g : Mp) (lines off : List PyData) (line shift row : Den) : List Den := [.d (encM f), .d (encM g), .own false lines, .own false off, line, shift, row, .un, .un, .un, .un, .un]
theorem zip_row3 (u v : List Int) : List.zipWith (fun d e => PyData.tuple [d, e]) (u.map .int) (v.map .int) = (u.zip v).map fun p => .tuple [.int p.1, .int p.2] := zip_pair u v
theorem fold_len (w : Nat) : ∀ (ts : List Tri) (st : List Int × Int), (∀ t ∈ ts, t.2.1.length = w) → st.1.length = w → (ts.foldl inStep st).1.length = w
  | [], _, _, h => h
  | t :: ts, st, h, hs => fold_len w ts _ (fun x hx => h x (by simp [hx])) (by show (stepRow st.1 t.1 t.2.1).length = w; rw [stepRow_len (by rw [hs, h t (by simp)]), hs])
theorem ok_then (D : Def K mg "_law_then" (top 20) ["first", "second"]) (B : Bt mg) : Cl P w K mg base 1 "_law_then" ["first", "second"] RThen := by
  refine .of (N := thenN) D scThen (by decide) (fun as o h => by cases h <;> exact ⟨rfl, rfl⟩) ?_
  rintro X W ⟨f, cdv, A, outer, s, H, E, rfl⟩ hr tk po as o h
  cases h with | @ok m n w h h' km kn Wm Wn Sm1 Sn hk1 hk2 => ?_
  obtain ⟨r0, rs, e0, l0⟩ := Wm.head
  have x0 : atI (m.rows.map encV) 0 = some (encV r0) := by rw [e0]; exact atI_at (n := 0) rfl
  have hw := okLen_le Wm.w1
  have hh := okLen_le Wm.h1
  have hh' := okLen_le Wn.h1
  let F : List Int × Int → List Int × Int := fun p => inner w p.2 (tri p.1 m)
  refine ⟨.ret (encM (afterM m n)) _, rfl, Ex.cons (ES.stO 2 scThen.nd .li0) <| Ex.cons (ES.stO 3 scThen.nd .li0) <|
    Ex.cons (ES.loop2 4 5 (n.rows.zip n.off) (fun i => thenS m n (((n.rows.zip n.off).take i).map fun p => encV (inner w p.2 (tri p.1 m)).1) (((n.rows.zip n.off).take i).map fun p => .int (inner w p.2 (tri p.1 m)).2) .un .un .un) scThen.nd rfl po
      (EvI.cast (EvI.zip2 (k1 := false) (k2 := false) rfl B.zip (.ixT (.nm 1) .int at3_0) (.ixT (.nm 1) .int at3_1)) (zip_row2 _ _)) ?_ ?_ rfl) <|
    Ex.weak (.of (.same (.same (.frz (.frz (.same (.same (.same (.same (.same (.same (.same (.same .nil))))))))))))) <|
    Ex.one (ES.ret (Ev.cast (Ev.tu3 (Ev.tupOf (k := true) rfl rfl B.tuple (.nm 2)) (Ev.tupOf (k := true) rfl rfl B.tuple (.nm 3)) (.ixT (.nm 1) .int at3_2)) ?_))⟩
  · exact .same (.same (.same (.same (.same (.same (.same (.same (.same (.same (.same (.same .nil)))))))))))
  · rintro i ⟨line, shift⟩ hp
    have hmem := List.of_mem_zip (List.mem_of_getElem? hp)
    have hil : i < (n.rows.zip n.off).length := (List.getElem?_eq_some_iff.mp hp).1
    have hlen : (n.rows.zip n.off).length = h' := by rw [List.length_zip, Wn.rl, Wn.ol, Nat.min_self]
    have sl := Sn.row Wn hk2 hmem.1
    generalize hL : ((n.rows.zip n.off).take i).map (fun p => encV (inner w p.2 (tri p.1 m)).1) = L
    generalize hO : ((n.rows.zip n.off).take i).map (fun p => PyData.int (inner w p.2 (tri p.1 m)).2) = O
    have lL : L.length = i := by rw [← hL, List.length_map, List.length_take]; omega
    have lO : O.length = i := by rw [← hO, List.length_map, List.length_take]; omega
    have rep : (List.replicate ((w : Int)).toNat [PyData.int 0]).flatten = (List.replicate w (0 : Int)).map .int := by
      rw [Int.toNat_natCast]
      simp
    refine ⟨_, Ex.cons (ES.stF 6 scThen.nd (EvO.rep (EvO.li1 .int) (Ev.cast (d' := .int w) (Ev.len (k := false) rfl rfl B.len (.ixT (.ixT (.nm 0) .int at3_0) .int x0)) (by rw [List.length_map, l0])) (by omega) (by omega) ?_)) <|
      Ex.cons (ES.loop3 7 8 9 (line.zip (m.rows.zip m.off)) (fun j => thenS m n L O (.d (encV line)) (.d (.int (((tri line m).take j).foldl inStep (List.replicate w 0, shift)).2)) (.d (.list ((((tri line m).take j).foldl inStep (List.replicate w 0, shift)).1.map .int)))) scThen.nd rfl po
        (EvI.cast (EvI.zip3 (k1 := false) (k2 := false) (k3 := false) rfl B.zip (.nm 4) (.ixT (.nm 0) .int at3_0) (.ixT (.nm 0) .int at3_1)) (zip_tri _ _ _)) ?_ ?_ rfl) <|
      Ex.cons (ES.app 2 (Ev.cast (d' := encV (inner w shift (tri line m)).1) (Ev.tupOf (k := true) rfl rfl B.tuple (.nm 6)) ?_) ?_) <|
      Ex.one (ES.app 3 (Ev.cast (d' := .int (inner w shift (tri line m)).2) (.nm 5) ?_) ?_), ?_⟩
    · rw [sizeLine_eq]
      simp
      omega
    · rw [rep]
      exact .same (.same (.same (.same (.same (.same (.same (.same (.same (.same (.same (.same .nil)))))))))))
    · rintro j ⟨a, other, x⟩ ht
      have hm1 := List.of_mem_zip (List.mem_of_getElem? ht)
      have hm2 := List.of_mem_zip hm1.2
      have sa : Sm a := sl.2 a hm1.1
      have so : SmV other := Sm1.row Wm hk1 hm2.1
      have sx : Sm x := (off_sm Wm Sm1 hk1).2 x hm2.2
      generalize hst : ((tri line m).take j).foldl inStep (List.replicate w 0, shift) = st
      have hst1 : ((tri line m).take (j + 1)).foldl inStep (List.replicate w 0, shift) = inStep st (a, other, x) := by
        rw [take_more (show (tri line m)[j]? = some (a, other, x) from ht), List.foldl_append, hst]
        rfl
      have stl : st.1.length = w := by
        rw [← hst]
        refine fold_len w _ _ (fun t ht' => ?_) (by simp)
        have := List.of_mem_zip (List.mem_of_mem_take ht')
        exact Wm.cl _ (List.of_mem_zip this.2).1
      have ol : other.length = w := Wm.cl _ hm2.1
      refine ⟨_, Ex.cons (LcC.st [("b", 10), ("c", 11)] 6 (LcC.map (st.1.zip other) (fun p => .int (p.1 + a * p.2)) (EvI.cast (EvI.zip2 (k1 := true) (k2 := false) rfl B.zip (.nm 6) (.nm 8)) (zip_pair _ _)) ?_ ?_ ?_) rfl scThen.nd (blkOk_by rfl)) <|
        Ex.one (ES.st 5 scThen.nd (Ev.add (.nm 5) (Ev.mul (.nm 7) (.nm 9) (Sm.mul sa sx)))), ?_⟩
      · exact .of
      · rw [List.length_zip]; omega
      · intro p hp'
        have hpm := List.of_mem_zip hp'
        refine .p2 10 11 rfl scThen.nd ?_
        rintro Y ⟨_, _, _, _, _, rfl⟩
        exact .add (.nm 10) (.mul (.nm 7) (.nm 11) (Sm.mul sa (so.2 _ hpm.2)))
      · show WkL _ (thenS m n L O (.d (encV line)) (.d (.int (((tri line m).take (j + 1)).foldl inStep (List.replicate w 0, shift)).2)) (.d (.list ((((tri line m).take (j + 1)).foldl inStep (List.replicate w 0, shift)).1.map .int))))
        rw [hst1]
        have er : ((st.1.zip other).map fun p => PyData.int (p.1 + a * p.2)) = (inStep st (a, other, x)).1.map .int := by
          show _ = (stepRow st.1 a other).map PyData.int
          unfold stepRow
          rw [List.map_map]
          rfl
        rw [er]
        exact .same (.same (.same (.same (.same (.same (.same (.un rfl (.un rfl (.un rfl (.same (.same .nil)))))))))))
    · show PyData.tuple ((((tri line m).take (tri line m).length).foldl inStep (List.replicate w 0, shift)).1.map .int) = _
      rw [List.take_length]
      rfl
    · rw [lL, sizeLine_eq]; omega
    · show PyData.int (((tri line m).take (tri line m).length).foldl inStep (List.replicate w 0, shift)).2 = _
      rw [List.take_length]
      rfl
    · rw [lO, sizeLine_eq]; omega
    · show WkL _ (thenS m n (((n.rows.zip n.off).take (i + 1)).map fun p => encV (inner w p.2 (tri p.1 m)).1) (((n.rows.zip n.off).take (i + 1)).map fun p => .int (inner w p.2 (tri p.1 m)).2) .un .un .un)
      rw [take_more hp, List.map_append, List.map_append, hL, hO]
      exact .same (.same (.same (.same (.un rfl (.un rfl (.un rfl (.same (.same (.same (.same (.same .nil)))))))))))
  · rw [List.take_length]
    have e1 : ((n.rows.zip n.off).map fun p => encV (inner w p.2 (tri p.1 m)).1) = (n.rows.map fun r => encV ((colsOf m.rows w).map fun c => dot r c)) := by
      refine List.ext_getElem (by simp [Wn.rl, Wn.ol]) fun i h1 h2 => ?_
      have hi : i < n.rows.length := by simpa using h2
      simp only [List.getElem_map, List.getElem_zip]
      rw [inner_eq Wm (Wn.cl _ (List.getElem_mem hi))]
    have e2 : ((n.rows.zip n.off).map fun p => PyData.int (inner w p.2 (tri p.1 m)).2) = ((n.rows.zip n.off).map fun p => .int (dot p.1 m.off + p.2)) := by
      refine List.map_congr_left fun p hp => ?_
      rw [inner_eq Wm (Wn.cl _ (List.of_mem_zip hp).1)]
    rw [e1, e2]
    simp [encM, encR, afterM, encV, Function.comp_def, Wm.wd]
end
end K2

namespace DL
open PySem PySem.Spec PyProof.Rows L2
theorem cut_from1 (xs : List PyData) : cutD xs (some 1) none = xs.drop 1 := by
  unfold cutD
  have h1 := HT.sIx_nat xs.length 0 1
  rw [show ((1 : Nat) : Int) = 1 from rfl] at h1
  rw [h1, HT.sIx_none]
  rcases Nat.lt_or_ge 0 xs.length with h | h
  · rw [Nat.min_eq_left h]
    exact List.take_of_length_le (by simp)
  · have : xs = [] := List.eq_nil_of_length_eq_zero (by omega)
    subst this
    rfl
theorem cut_to1 (xs : List PyData) (h : xs ≠ []) : cutD xs none (some (-1)) = xs.dropLast := by
  unfold cutD
  have hl : 0 < xs.length := List.length_pos_iff.mpr h
  have h1 : HT.sIx xs.length xs.length (some (-1)) = xs.length - 1 := by
    simp only [HT.sIx]
    rw [if_pos (by decide)]
    omega
  rw [h1, HT.sIx_none, List.drop_zero, Nat.sub_zero, List.dropLast_eq_take]
end DL
namespace K2
open PySem PySem.Spec PyProof.Rows L2 DL
/-! ### parts of chains -/
theorem Ch.split : ∀ {A B : List Mp} {w h : Nat}, Ch w (A ++ B) h → ∃ h1, Ch w A h1 ∧ Ch h1 B h
  | [], B, w, h, c => ⟨w, .nil, c⟩
  | m :: A, B, w, h, .cons wm c => by
    obtain ⟨h1, a, b⟩ := Ch.split (A := A) c
    exact ⟨h1, .cons wm a, b⟩
theorem Ch.append : ∀ {A B : List Mp} {w h1 h : Nat}, Ch w A h1 → Ch h1 B h → Ch w (A ++ B) h
  | [], _, _, _, _, .nil, b => b
  | _ :: _, _, _, _, _, .cons wm a, b => .cons wm (Ch.append a b)
theorem Chain.drop {A B : List Mp} {w h : Nat} (c : Chain w (A ++ B) h) (hB : B ≠ []) : ∃ h1, Chain h1 B h := by
  obtain ⟨h1, _, b⟩ := c.ch.split
  refine ⟨h1, b, hB, fun m hm => c.sz m (by simp [hm]), fun i m hm hl => ?_, ?_⟩
  · refine c.fl (A.length + i) m ?_ (by rw [List.length_append]; omega)
    rw [List.getElem?_append_right (by omega)]
    simpa using hm
  · have := c.len
    rw [List.length_append] at this
    omega
theorem Chain.at {m0 : Mp} {rest : List Mp} {w h : Nat} (c : Chain w (m0 :: rest) h) {i : Nat} {m : Mp} (hm : rest[i]? = some m) :
    ∃ h1 h2 k, Wf ((rest.take i).foldl afterM m0) w h1 ∧ Wf m h1 h2 ∧ Sz k ((rest.take i).foldl afterM m0) ∧ k ≤ 1900 ∧ ((rest.take i).foldl afterM m0).hv = 0 ∧ Sz 70 m := by
  obtain ⟨ch, ne, sz, fl, len⟩ := c
  have hi : i < rest.length := (List.getElem?_eq_some_iff.mp hm).1
  cases ch with
  | @cons _ h0 _ _ _ wm ch =>
    obtain ⟨h1, e1, e2, e3, e4⟩ := fold_at rest m0 70 w h0 h wm (sz m0 (by simp)) ch (fun x hx => sz x (by simp [hx])) (fun hne => fl 0 m0 rfl (by
      cases rest with
      | nil => exact absurd rfl hne
      | cons _ _ => simp)) fl.tail i (by omega)
    have ed : rest.drop i = m :: rest.drop (i + 1) := by
      rw [List.drop_eq_getElem_cons hi]
      congr 1
      rw [List.getElem?_eq_getElem hi] at hm
      exact Option.some.inj hm
    rw [ed] at e4
    cases e4 with
    | cons wm2 _ =>
      simp at len
      exact ⟨h1, _, _, e1, wm2, e2, by omega, e3 hi, sz m (by simp [List.mem_of_getElem? hm])⟩
def foldR (q : List Mp) (last : Mp) : Mp := q.foldl (fun acc m => afterM m acc) last
theorem prodR_cons {m : Mp} {X : List Mp} (h : X ≠ []) : prodR (m :: X) = afterM m (prodR X) := by
  cases X with
  | nil => exact absurd rfl h
  | cons n X => rfl
theorem foldR_eq : ∀ (q : List Mp) (last : Mp), foldR q last = prodR (q.reverse ++ [last]) := by
  have gen : ∀ (q : List Mp) (X : List Mp), X ≠ [] → q.foldl (fun acc m => afterM m acc) (prodR X) = prodR (q.reverse ++ X) := by
    intro q
    induction q with
    | nil => intro X _; rfl
    | cons m q ih =>
      intro X hX
      rw [List.foldl_cons, ← prodR_cons hX, ih (m :: X) (by simp), List.reverse_cons, List.append_assoc]
      rfl
  intro q last
  exact gen q [last] (by simp)
section
variable {P : Program} {w : World} {K : PySem.W.Frag} {mg : Str → Option Value} {base : Heap} {cB fB cM fM : Addr}
def encL (ms : List Mp) : PyData := .list (ms.map encM)
/-! ### _law_folded, _law_left, _law_right -/
inductive RFold : List Den → Out → Prop
  | ok {ms : List Mp} {w h : Nat} : Chain w ms h → RFold [.d (encL ms)] (.ret (encM (prodL ms)) [.d (encL ms)])
theorem scFold : FnScope ["chain", "found", "mapping"] ["chain"] (defScope (top 21)) := ⟨rfl, rfl, rfl, by decide +kernel, rfl, by decide +kernel, by decide +kernel⟩
theorem scLeft : FnScope ["chain", "found", "mapping"] ["chain"] (defScope (top 23)) := ⟨rfl, rfl, rfl, by decide +kernel, rfl, by decide +kernel, by decide +kernel⟩
theorem scRight : FnScope ["chain", "found", "mapping"] ["chain"] (defScope (top 24)) := ⟨rfl, rfl, rfl, by decide +kernel, rfl, by decide +kernel, by decide +kernel⟩
theorem ok_folded (D : Def K mg "_law_folded" (top 21) ["chain"]) (B : Bt mg) (C1 : Cl P w K mg base 1 "_law_then" ["first", "second"] RThen) : Cl P w K mg base 2 "_law_folded" ["chain"] RFold := by
  refine .of (N := ["chain", "found", "mapping"]) D scFold (by decide) (fun as o h => by cases h <;> exact ⟨rfl, rfl⟩) ?_
  rintro X W ⟨f, cdv, A, outer, s, H, E, rfl⟩ hr tk po as o h
  cases h with | @ok ms w h c => ?_
  cases ms with
  | nil => exact absurd rfl c.ne
  | cons m0 rest =>
    refine ⟨.ret (encM (prodL (m0 :: rest))) _, rfl, Ex.cons (ES.st 1 scFold.nd (.ixL (.nm 0) .int (show atI (encM m0 :: rest.map encM) 0 = some (encM m0) from atI_at (n := 0) rfl))) <|
      Ex.cons (ES.loop1 2 rest (fun i => [.d (encL (m0 :: rest)), .d (encM ((rest.take i).foldl afterM m0)), .un]) scFold.nd rfl po (EvI.cast (EvI.list (EvO.ev (EvO.slice (.nm 0) (.some .int) .none))) (by rw [cut_from1]; rfl)) ?_ ?_ rfl) <|
      Ex.one (ES.ret (Ev.cast (.nm 1) (by rw [List.take_length]; rfl)))⟩
    · exact .same (.same (.same .nil))
    · intro i m hm
      obtain ⟨h1, h2, k, w1, w2, s1, hk, hv, s2⟩ := c.at hm
      refine ⟨_, Ex.one (ES.st 1 scFold.nd (Ev.cl C1 hr (by decide) rfl (EvA.cons (.nm 1) (EvA.cons (.nm 2) .nil)) (.ok w1 w2 s1 s2 hk (by decide)) (.none rfl))), ?_⟩
      rw [take_more hm, List.foldl_append]
      exact .same (.same (.un rfl .nil))
theorem ok_left (D : Def K mg "_law_left" (top 23) ["chain"]) (B : Bt mg) (C1 : Cl P w K mg base 2 "after" ["first", "second"] (RAfter cM)) : Cl P w K mg base 3 "_law_left" ["chain"] RFold := by
  refine .of (N := ["chain", "found", "mapping"]) D scLeft (by decide) (fun as o h => by cases h <;> exact ⟨rfl, rfl⟩) ?_
  rintro X W ⟨f, cdv, A, outer, s, H, E, rfl⟩ hr tk po as o h
  cases h with | @ok ms w h c => ?_
  cases ms with
  | nil => exact absurd rfl c.ne
  | cons m0 rest =>
    refine ⟨.ret (encM (prodL (m0 :: rest))) _, rfl, Ex.cons (ES.st 1 scLeft.nd (.ixL (.nm 0) .int (show atI (encM m0 :: rest.map encM) 0 = some (encM m0) from atI_at (n := 0) rfl))) <|
      Ex.cons (ES.loop1 2 rest (fun i => [.d (encL (m0 :: rest)), .d (encM ((rest.take i).foldl afterM m0)), .un]) scLeft.nd rfl po (EvI.cast (EvI.list (EvO.ev (EvO.slice (.nm 0) (.some .int) .none))) (by rw [cut_from1]; rfl)) ?_ ?_ rfl) <|
      Ex.one (ES.ret (Ev.cast (.nm 1) (by rw [List.take_length]; rfl)))⟩
    · exact .same (.same (.same .nil))
    · intro i m hm
      obtain ⟨h1, h2, k, w1, w2, s1, hk, hv, s2⟩ := c.at hm
      refine ⟨_, Ex.one (ES.st 1 scLeft.nd (Ev.cl C1 hr (by decide) rfl (EvA.cons (.nm 1) (EvA.cons (.nm 2) .nil)) (.ok w1 w2 hv s1 s2 hk (by decide)) (.none rfl))), ?_⟩
      rw [take_more hm, List.foldl_append]
      exact .same (.same (.un rfl .nil))
/-- what each step of _law_right asks -/
def RightOk (pre : List Mp) (last : Mp) : Prop := ∀ A m B, pre = A ++ m :: B → ∃ h1 h2 h k k', Wf m h1 h2 ∧ Wf (prodR (B ++ [last])) h2 h ∧ m.hv = 0 ∧ Sz k m ∧ Sz k' (prodR (B ++ [last])) ∧ k ≤ 1900 ∧ k' ≤ 1900
theorem Chain.right {pre : List Mp} {last : Mp} {w h : Nat} (c : Chain w (pre ++ [last]) h) : RightOk pre last := fun A m B e => by
  have c1 : Chain w (A ++ (m :: (B ++ [last]))) h := by
    have : A ++ (m :: (B ++ [last])) = pre ++ [last] := by rw [e]; simp
    rw [this]
    exact c
  obtain ⟨h1, c2⟩ := c1.drop (by simp)
  have c3 := c2.ch
  cases c3 with
  | @cons _ h2 _ _ _ wm ch =>
    obtain ⟨h3, c4⟩ : ∃ h3, Chain h3 (B ++ [last]) h := Chain.drop (A := [m]) c2 (by simp)
    have pw := c4.prod
    rw [prod_LR c4.ch] at pw
    exact ⟨h1, h2, h, _, _, wm, prodR_wf ch (by simp), c2.fl 0 m rfl (by simp), c2.sz m (by simp), pw.2, by decide, by decide⟩
theorem Chain.rightCons {m0 : Mp} {pre : List Mp} {last : Mp} {w w0 h k : Nat} (c : Chain w (pre ++ [last]) h) (wm : Wf m0 w0 w) (hz : m0.hv = 0) (sz : Sz k m0) (hk : k ≤ 1900) : RightOk (m0 :: pre) last := fun A m B e => by
  cases A with
  | nil =>
    cases e
    have pw := c.prod
    rw [prod_LR c.ch] at pw
    exact ⟨w0, w, h, _, _, wm, pw.1, hz, sz, pw.2, hk, by decide⟩
  | cons a A =>
    cases e
    exact c.right A m B rfl
inductive RRight : List Den → Out → Prop
  | ok {pre : List Mp} {last : Mp} : RightOk pre last → RRight [.d (encL (pre ++ [last]))] (.ret (encM (prodR (pre ++ [last]))) [.d (encL (pre ++ [last]))])
theorem ok_right (D : Def K mg "_law_right" (top 24) ["chain"]) (B : Bt mg) (C1 : Cl P w K mg base 2 "after" ["first", "second"] (RAfter cM)) : Cl P w K mg base 3 "_law_right" ["chain"] RRight := by
  refine .of (N := ["chain", "found", "mapping"]) D scRight (by decide) (fun as o h => by cases h <;> exact ⟨rfl, rfl⟩) ?_
  rintro X W ⟨f, cdv, A, outer, s, H, E, rfl⟩ hr tk po as o h
  cases h with | @ok pre last c => ?_
  have el : atI ((pre ++ [last]).map encM) (-1) = some (encM last) := by
    rw [List.map_append]
    exact atI_last
  have ei : ((cutD ((pre ++ [last]).map encM) none (some (-1))).reverse) = (pre.reverse).map encM := by
    rw [cut_to1 _ (by simp), List.map_append, List.map_cons, List.map_nil, List.dropLast_concat, List.map_reverse]
  have ew : foldR pre.reverse last = prodR (pre ++ [last]) := by
    rw [foldR_eq, List.reverse_reverse]
  refine ⟨.ret (encM (prodR (pre ++ [last]))) _, rfl, Ex.cons (ES.st 1 scRight.nd (.ixL (.nm 0) (.neg .int) el)) <|
    Ex.cons (ES.loop1 2 pre.reverse (fun i => [.d (encL (pre ++ [last])), .d (encM (foldR (pre.reverse.take i) last)), .un]) scRight.nd rfl po (EvI.cast (EvI.list (EvO.ev (EvO.rev (EvO.ev (EvO.slice (.nm 0) .none (.some (.neg .int))))))) ei) ?_ ?_ rfl) <|
    Ex.one (ES.ret (Ev.cast (.nm 1) (by rw [List.take_length, ew])))⟩
  · exact .same (.same (.same .nil))
  · intro i m hm
    have es : pre = (pre.reverse.drop (i + 1)).reverse ++ (m :: (pre.reverse.take i).reverse) := by
      have h1 := congrArg List.reverse (List.take_append_drop (i + 1) pre.reverse)
      rw [List.reverse_append, List.reverse_reverse, take_more hm, List.reverse_append] at h1
      exact h1.symm
    obtain ⟨h1, h2, h, k, k', w1, w2, hz, s1, s2, hk, hk'⟩ := c _ _ _ es
    rw [← foldR_eq] at w2 s2
    refine ⟨_, Ex.one (ES.st 1 scRight.nd (Ev.cl C1 hr (by decide) rfl (EvA.cons (.nm 2) (EvA.cons (.nm 1) .nil)) (.ok w1 w2 hz s1 s2 hk hk') (.none rfl))), ?_⟩
    show WkL _ [.d (encL (pre ++ [last])), .d (encM (foldR (pre.reverse.take (i + 1)) last)), .un]
    have e2 : foldR (pre.reverse.take (i + 1)) last = afterM m (foldR (pre.reverse.take i) last) := by
      unfold foldR
      rw [take_more hm, List.foldl_append]
      rfl
    rw [e2]
    exact .same (.same (.un rfl .nil))
theorem right_ok {ms : List Mp} {w h : Nat} (c : Chain w ms h) : RRight [.d (encL ms)] (.ret (encM (prodL ms)) [.d (encL ms)]) := by
  obtain ⟨pre, last, rfl⟩ : ∃ pre last, ms = pre ++ [last] := ⟨ms.dropLast, ms.getLast c.ne, (List.dropLast_concat_getLast c.ne).symm⟩
  rw [prod_LR c.ch]
  exact .ok c.right
theorem right_cons {m0 : Mp} {ms : List Mp} {w w0 h k : Nat} (c : Chain w ms h) (wm : Wf m0 w0 w) (hz : m0.hv = 0) (sz : Sz k m0) (hk : k ≤ 1900) : RRight [.d (encL (m0 :: ms))] (.ret (encM (afterM m0 (prodL ms))) [.d (encL (m0 :: ms))]) := by
  obtain ⟨pre, last, rfl⟩ : ∃ pre last, ms = pre ++ [last] := ⟨ms.dropLast, ms.getLast c.ne, (List.dropLast_concat_getLast c.ne).symm⟩
  rw [prod_LR c.ch, ← prodR_cons (by simp)]
  exact RRight.ok (pre := m0 :: pre) (c.rightCons wm hz sz hk)
end
end K2

namespace K2
open PySem PySem.Spec PyProof.Rows L2 DL
section
variable {P : Program} {w : World} {K : PySem.W.Frag} {mg : Str → Option Value} {base : Heap} {cB fB cM fM : Addr}
/-! ### what fits -/
theorem fitV {v : List Int} (hl : v.length ≤ 4) (h : ∀ x ∈ v, Sm x) : Fits 5 1 (encV v) := by
  have a := FitsAll.map (w := 1) (h := 0) (f := PyData.int) (xs := v) fun x hx => Fits.int (h x hx)
  exact (a.mono (w' := 4) (h' := 0) (by omega) (Nat.le_refl _)).tup
theorem fitR {R : List (List Int)} (hl : R.length ≤ 3) (h : ∀ r ∈ R, r.length ≤ 4 ∧ ∀ x ∈ r, Sm x) : Fits 16 2 (encR R) := by
  have a := FitsAll.map (w := 5) (h := 1) (f := encV) (xs := R) fun x hx => fitV (h x hx).1 (h x hx).2
  exact (a.mono (w' := 15) (h' := 1) (by omega) (Nat.le_refl _)).tup
theorem fitM {m : Mp} {w h k : Nat} (W : Wf m w h) (s : Sz k m) (hk : k ≤ 1900) : Fits 30 3 (encM m) := by
  have hw := okLen_le W.w1
  have hh := okLen_le W.h1
  have a := fitR (R := m.rows) (by rw [W.rl]; omega) fun r hr => ⟨by rw [W.cl r hr]; omega, fun x hx => Sm.of (s.r r hr x hx) hk⟩
  have b := fitV (v := m.off) (by rw [W.ol]; omega) fun x hx => Sm.of (s.o x hx) hk
  have c : Fits 1 0 (.int m.hv) := Fits.int (by
    have : (m.hv : Int).natAbs = m.hv := Int.natAbs_natCast _
    have h1 := s.hv
    have : 100 < 2 ^ 1900 := by decide +kernel
    omega)
  exact (FitsAll.cons a (FitsAll.cons b (FitsAll.cons c FitsAll.nil))).tup.mono (by decide) (by decide)
theorem same_ok {d : PyData} {a b : Nat} (f : Fits a b d) (ha : a ≤ 500 := by decide) (hb : b ≤ 60 := by decide) : RSame [.d d, .d d] (.ret (.bool true) [.d d, .d d]) := .ok f.gd (f.nice ha hb)
/-! ### _law_led -/
inductive RLed : List Den → Out → Prop
  | ok {m : Mp} {c : List Int} {w h k : Nat} : Wf m w h → Sz k m → k ≤ 1900 → c.length = w → (∀ x ∈ c, Sm x) → RLed [.d (encM m), .d (encV c)] (.ret (encV (applied m c)) [.d (encM m), .d (encV c)])
abbrev ledN : List Str := ["mapping", "cell", "lines", "offset", "halvings", "found", "line", "shift", "led", "a", "x"]
theorem scLed : FnScope ledN ["mapping", "cell"] (defScope (top 22)) := ⟨rfl, rfl, rfl, by decide +kernel, rfl, by decide +kernel, by decide +kernel⟩
abbrev ledS (m : Mp) (c : List Int) (fd : List PyData) : List Den := [.d (encM m), .d (encV c), .d (encR m.rows), .d (encV m.off), .d (.int m.hv), .own false fd, .un, .un, .un, .un, .un]
theorem ok_led (D : Def K mg "_law_led" (top 22) ["mapping", "cell"]) (B : Bt mg) : Cl P w K mg base 1 "_law_led" ["mapping", "cell"] RLed := by
  refine .of (N := ledN) D scLed (by decide) (fun as o h => by cases h <;> exact ⟨rfl, rfl⟩) ?_
  rintro X W ⟨f, cdv, A, outer, s, H, E, rfl⟩ hr tk po as o h
  cases h with | @ok m c w h k Wm Sm0 hk hc hs => ?_
  have hw := okLen_le Wm.w1
  have hh := okLen_le Wm.h1
  have e2 : ((1 : Int) * 2 ^ ((m.hv : Int)).toNat) = 2 ^ m.hv := by rw [Int.toNat_natCast, Int.one_mul]
  have hv := Sm0.hv
  refine ⟨.ret (encV (applied m c)) _, rfl, Ex.cons (ES.asg (.nm 0) (EvG.three 2 3 4 rfl scLed.nd)) <| Ex.cons (ES.stO 5 scLed.nd .li0) <|
    Ex.cons (ES.loop2 6 7 (m.rows.zip m.off) (fun i => ledS m c (((m.rows.zip m.off).take i).map fun p => .int ((p.2 + dot p.1 c) / 2 ^ m.hv))) scLed.nd rfl po (EvI.cast (EvI.zip2 (k1 := false) (k2 := false) rfl B.zip (.nm 2) (.nm 3)) (zip_row2 _ _)) ?_ ?_ rfl) <|
    Ex.weak (.of (.same (.same (.same (.same (.same (.frz (.same (.same (.same (.same (.same .nil)))))))))))) <|
    Ex.one (ES.ret (Ev.cast (Ev.tupOf (k := true) rfl rfl B.tuple (.nm 5)) ?_))⟩
  · exact .same (.same (.same (.same (.same (.same (.same (.same (.same (.same (.same .nil))))))))))
  · rintro i ⟨line, shift⟩ hp
    have hmem := List.of_mem_zip (List.mem_of_getElem? hp)
    have sl := Sm0.row Wm hk hmem.1
    have hil : i < (m.rows.zip m.off).length := (List.getElem?_eq_some_iff.mp hp).1
    have hlen : (m.rows.zip m.off).length = h := by rw [List.length_zip, Wm.rl, Wm.ol, Nat.min_self]
    generalize hL : ((m.rows.zip m.off).take i).map (fun p => PyData.int ((p.2 + dot p.1 c) / 2 ^ m.hv)) = L
    have lL : L.length = i := by rw [← hL, List.length_map, List.length_take]; omega
    have es : (.list ((line.zip c).map fun p => PyData.int (p.1 * p.2)) : PyData) = .list (((line.zip c).map fun p => p.1 * p.2).map .int) := by simp
    refine ⟨_, Ex.cons (ES.st 8 scLed.nd (Ev.add (.nm 7) (Ev.sum rfl rfl rfl B.sum (Ev.cast (EvO.ev (LcC.ev (own := [("a", 9), ("x", 10)]) (LcC.map (line.zip c) (fun p => .int (p.1 * p.2)) (EvI.cast (EvI.zip2 (k1 := false) (k2 := false) rfl B.zip (.nm 6) (.nm 1)) (zip_pair _ _)) ?_ ?_ ?_) rfl scLed.nd (blkOk_by rfl))) es)))) <|
      Ex.one (ES.app 5 (Ev.cast (d' := .int ((shift + dot line c) / 2 ^ m.hv)) (Ev.fdiv (.nm 8) (Ev.shl .int (.nm 4) ?_) ?_) ?_) ?_), ?_⟩
    · exact .of
    · rw [List.length_zip]; have := Wm.cl _ hmem.1; omega
    · intro p hp'
      have hpm := List.of_mem_zip hp'
      refine .p2 9 10 rfl scLed.nd ?_
      rintro Y ⟨_, _, _, _, _, rfl⟩
      exact .mul (.nm 9) (.nm 10) (Sm.mul (sl.2 _ hpm.1) (hs _ hpm.2))
    · unfold CPow
      omega
    · unfold CDivW
      rw [e2]
      refine ⟨Int.pow_pos (by decide), ?_⟩
      rw [Int.natAbs_pow]
      show (2 ^ m.hv).log2 < 9000
      rw [Nat.log2_two_pow]
      omega
    · rw [e2]
      rfl
    · rw [lL, sizeLine_eq]; omega
    · show WkL _ (ledS m c (((m.rows.zip m.off).take (i + 1)).map fun p => .int ((p.2 + dot p.1 c) / 2 ^ m.hv)))
      rw [take_more hp, List.map_append, hL]
      exact .same (.same (.same (.same (.same (.same (.un rfl (.un rfl (.un rfl (.same (.same .nil))))))))))
  · rw [List.take_length]
    unfold applied
    rw [halveN_eq]
    simp only [encV, act, List.map_map]
    congr 1
    refine List.map_congr_left fun p _ => ?_
    simp only [Function.comp]
    rw [Int.add_comm]
/-! ### _law_cells -/
def cellsOf (ns : List Int) (k dim : Nat) : List (List Int) :=
  let p := number ns k
  let m := 2 * 10 ^ 20 + 1
  [digs p m dim (10 ^ 20), digs (dv p m dim) 8 dim 4, List.replicate dim 0, List.replicate dim (-1)]
inductive RCells : List Den → Out → Prop
  | ok {ns : List Int} {k dim : Nat} : ns.length ≤ 63 → k ≤ 100 → okLen dim = true → RCells [.d (.list (ns.map .int)), .d (.int k), .d (.int dim)] (.ret (.list ((cellsOf ns k dim).map encV)) [.d (.list (ns.map .int)), .d (.int k), .d (.int dim)])
abbrev cellsN : List Str := ["script", "k", "dim", "pool", "far", "near", "i"]
theorem scCells : FnScope cellsN ["script", "k", "dim"] (defScope (top 25)) := ⟨rfl, rfl, rfl, by decide +kernel, rfl, by decide +kernel, by decide +kernel⟩
abbrev cellsS (ns : List Int) (k dim : Nat) (p : Int) (far near : Den) : List Den := [.d (.list (ns.map .int)), .d (.int k), .d (.int dim), .own false [.int p], far, near, .un]
theorem ok_cells (D : Def K mg "_law_cells" (top 25) ["script", "k", "dim"]) (B : Bt mg) (C1 : Cl P w K mg base 1 "_law_number" ["script", "k"] RNumber) (C2 : Cl P w K mg base 1 "_law_draw" ["pool", "most"] RDraw) :
    Cl P w K mg base 2 "_law_cells" ["script", "k", "dim"] RCells := by
  refine .of (N := cellsN) D scCells (by decide) (fun as o h => by cases h <;> exact ⟨rfl, rfl⟩) ?_
  rintro X W ⟨f, cdv, A, outer, s, H, E, rfl⟩ hr tk po as o h
  cases h with | @ok ns k dim hn hk hd => ?_
  have hd' := okLen_le hd
  have c20 : CPow 10 20 := by unfold CPow; omega
  have s8 : Sm 8 := Sm.of (k := 10) (by decide)
  have sF : Sm (2 * 10 ^ 20 + 1) := Sm.of (k := 100) (by decide)
  have rp : ∀ x : Int, (List.replicate ((dim : Int)).toNat [PyData.int x]).flatten = (List.replicate dim x).map .int := fun x => by
    rw [Int.toNat_natCast]
    simp
  generalize hp : number ns k = p
  generalize hm : (2 : Int) * 10 ^ 20 + 1 = m at sF
  have m0 : 0 < m := by rw [← hm]; decide
  have em : PyData.int ((2 : Int) * 10 ^ ((20 : Int)).toNat + 1) = .int m := by rw [← hm]; rfl
  refine ⟨.ret (.list ((cellsOf ns k dim).map encV)) _, rfl, Ex.cons (ES.stO 3 scCells.nd (EvO.li1 (Ev.cast (d' := .int p) (Ev.cl C1 hr (by decide) rfl (EvA.cons (.nm 0) (EvA.cons (.nm 1) .nil)) (.ok hn hk) (.none rfl)) (by rw [hp])))) <|
    Ex.cons (LcC.st [("i", 6)] 4 (LcC.go (ρ3 := cellsS ns k dim (dv p m dim) .un .un) (List.range dim) (fun i => .int (dv p m i % m - 10 ^ 20)) (fun i => cellsS ns k dim (dv p m i) .un .un) (EvI.rng rfl B.range (.nm 2) (by omega)) ?_ ?_ ?_ ?_) rfl scCells.nd (blkOk_by rfl)) <|
    Ex.cons (LcC.st [("i", 6)] 5 (LcC.go (ρ3 := cellsS ns k dim (dv (dv p m dim) 8 dim) (.d (.list ((List.range (List.range dim).length).map fun i => .int (dv p m i % m - 10 ^ 20)))) .un) (List.range dim) (fun i => .int (dv (dv p m dim) 8 i % 8 - 4)) (fun i => cellsS ns k dim (dv (dv p m dim) 8 i) (.d (.list ((List.range (List.range dim).length).map fun i => .int (dv p m i % m - 10 ^ 20)))) .un) (EvI.rng rfl B.range (.nm 2) (by omega)) ?_ ?_ ?_ ?_) rfl scCells.nd (blkOk_by rfl)) <|
    Ex.one (ES.ret (Ev.cast (EvO.ev (EvO.lst (ds := [_, _, _, _]) (EvA.cons (Ev.tupOf (k := true) rfl rfl B.tuple (.nm 4)) (EvA.cons (Ev.tupOf (k := true) rfl rfl B.tuple (.nm 5)) (EvA.cons (Ev.repT (Ev.tu1 .int) (.nm 2) ?_ ?_ ?_) (EvA.cons (Ev.repT (Ev.tu1 (.neg .int)) (.nm 2) ?_ ?_ ?_) .nil)))) (by show 4 ≤ sizeLine; decide))) ?_))⟩
  · exact .same (.same (.same (.same (.same (.same (.same .nil))))))
  · simp; omega
  · intro i x hx
    refine .p1S 6 scCells.nd ?_ (Agr.set (i := 6) (d := .d (.int x)) .refl (by decide))
    rintro Y ⟨_, _, _, _, _, rfl⟩
    exact .sub (drw C2 hr (by decide) 3 (Ev.cast (Ev.add (Ev.mul .int (Ev.pow .int .int c20) (by unfold CMulW; decide +kernel)) .int) em) m0 sF) (Ev.pow .int .int c20)
  · rw [List.length_range]
  · exact .same (.same (.same (.same (.same (.same (.same .nil))))))
  · simp; omega
  · intro i x hx
    refine .p1S 6 scCells.nd ?_ (Agr.set (i := 6) (d := .d (.int x)) .refl (by decide))
    rintro Y ⟨_, _, _, _, _, rfl⟩
    exact .sub (drw C2 hr (by decide) 3 .int (by decide) s8) .int
  · rw [List.length_range]
  · omega
  · omega
  · decide
  · omega
  · omega
  · decide
  · rw [rp, rp]
    simp only [cellsOf, hp, hm, List.length_range, encV, digs, List.map_cons, List.map_nil, List.map_map]
    rfl
end
end K2

namespace K2
open PySem PySem.Spec PyProof.Rows L2 DL
section
variable {P : Program} {w : World} {K : PySem.W.Frag} {mg : Str → Option Value} {base : Heap} {cB fB cM fM : Addr}
/-! ### _law_asked -/
inductive RAsked : List Den → Out → Prop
  | ok {ms : List Mp} {w h : Nat} {cells : List (List Int)} : Chain w ms h → (∀ c ∈ cells, c.length = w ∧ Szc 70 c) → RAsked [.d (encL ms), .d (encM (prodL ms)), .d (.list (cells.map encV))] (.ret (.bool true) [.d (encL ms), .d (encM (prodL ms)), .d (.list (cells.map encV))])
abbrev askN : List Str := ["chain", "due", "cells", "told", "cell", "here", "own", "mapping"]
theorem scAsk : FnScope askN ["chain", "due", "cells"] (defScope (top 26)) := ⟨rfl, rfl, rfl, by decide +kernel, rfl, by decide +kernel, by decide +kernel⟩
abbrev askS (ms : List Mp) (d : PyData) (cells : List (List Int)) (told cell here own : Den) : List Den := [.d (encL ms), .d d, .d (.list (cells.map encV)), told, cell, here, own, .un]
theorem sm_szc {k : Nat} {c : List Int} (h : Szc k c) (hk : k ≤ 1900) : ∀ x ∈ c, Sm x := fun x hx => Sm.of (h x hx) hk
theorem ok_asked (D : Def K mg "_law_asked" (top 26) ["chain", "due", "cells"]) (B : Bt mg) (CL : Cl P w K mg base 3 "_law_left" ["chain"] RFold) (CR : Cl P w K mg base 3 "_law_right" ["chain"] RRight) (CS : Cl P w K mg base 1 "_law_same" ["told", "due"] RSame)
    (CA : Cl P w K mg base 4 "applied" ["mapping", "cell"] (RApplied cB)) (CD : Cl P w K mg base 1 "_law_led" ["mapping", "cell"] RLed) : Cl P w K mg base 5 "_law_asked" ["chain", "due", "cells"] RAsked := by
  refine .of (N := askN) D scAsk (by decide) (fun as o h => by cases h <;> exact ⟨rfl, rfl⟩) ?_
  rintro X W ⟨f, cdv, A, outer, s, H, E, rfl⟩ hr tk po as o h
  cases h with | @ok ms w h cells C hcs => ?_
  have pw := C.prod
  have pf := fitM pw.1 pw.2 (by decide)
  have lms := C.len
  refine ⟨.ret (.bool true) _, rfl, Ex.cons (ES.loop1 3 [prodL ms, prodL ms] (fun _ => askS ms (encM (prodL ms)) cells .un .un .un .un) scAsk.nd rfl po (EvI.list (Ev.li2 (Ev.cl CL hr (by decide) rfl (EvA.cons (.nm 0) .nil) (.ok C) (.none rfl)) (Ev.cl CR hr (by decide) rfl (EvA.cons (.nm 0) .nil) (right_ok C) (.none rfl)))) ?_ ?_ rfl) <|
    Ex.one (ES.ret .bl)⟩
  · exact .same (.same (.same (.same (.same (.same (.same (.same .nil)))))))
  · intro i t ht
    have et : t = prodL ms := by
      have := List.mem_of_getElem? ht
      simpa using this
    subst et
    refine ⟨_, Ex.cons (ES.skip (EvT.not (EvT.val (Ev.cl CS hr (by decide) rfl (EvA.cons (.nm 3) (EvA.cons (.nm 1) .nil)) (same_ok pf) (.none rfl)))) rfl) <|
      Ex.one (ES.loop1 4 cells (fun _ => askS ms (encM (prodL ms)) cells (.d (encM (prodL ms))) .un .un .un) scAsk.nd rfl po (EvI.list (.nm 2)) ?_ ?_ rfl), ?_⟩
    · exact .same (.same (.same (.same (.same (.same (.same (.same .nil)))))))
    · intro j c hc
      obtain ⟨hl, sc⟩ := hcs c (List.mem_of_getElem? hc)
      refine ⟨_, Ex.cons (ES.st 5 scAsk.nd (.nm 4)) <| Ex.cons (ES.st 6 scAsk.nd (.nm 4)) <|
        Ex.cons (ES.loop1 7 ms (fun i => askS ms (encM (prodL ms)) cells (.d (encM (prodL ms))) (.d (encV c)) (.d (encV (runC c (ms.take i)))) (.d (encV (runC c (ms.take i))))) scAsk.nd rfl po (EvI.list (.nm 0)) ?_ ?_ rfl) <|
        Ex.one (ES.skip (EvT.not (EvT.val (Ev.cl CS hr (by decide) rfl (EvA.cons (Ev.cl CA hr (by decide) rfl (EvA.cons (.nm 3) (EvA.cons (.nm 4) .nil)) (.ok pw.1 pw.2 (by decide) hl (sm_szc sc (by decide))) (.none rfl)) (EvA.consC (.nm 6) ?_ .nil)) (same_ok (fitV (v := applied (prodL ms) c) ?_ ?_)) (.none rfl)))) rfl), ?_⟩
      · exact .same (.same (.same (.same (.same (.same (.same (.same .nil)))))))
      · intro k m hm
        have hk : k < ms.length := (List.getElem?_eq_some_iff.mp hm).1
        obtain ⟨h1, e1, e2, e3⟩ := run_at ms c 70 w h C.ch C.sz hl sc k (by omega)
        have ed : ms.drop k = m :: ms.drop (k + 1) := by
          rw [List.drop_eq_getElem_cons hk]
          congr 1
          rw [List.getElem?_eq_getElem hk] at hm
          exact Option.some.inj hm
        rw [ed] at e3
        cases e3 with
        | @cons _ h2 _ _ _ wm _ =>
          have sm := C.sz m (List.mem_of_getElem? hm)
          have s2 := Szc.applied wm sm e2
          have er : runC c (ms.take (k + 1)) = applied m (runC c (ms.take k)) := by
            unfold runC
            rw [take_more hm, List.foldl_append]
            rfl
          have hh2 := okLen_le wm.h1
          refine ⟨_, Ex.cons (ES.st 5 scAsk.nd (Ev.cl CA hr (by decide) rfl (EvA.cons (.nm 7) (EvA.cons (.nm 5) .nil)) (.ok wm sm (by decide) e1 (sm_szc e2 (by omega))) (.none rfl))) <|
            Ex.cons (ES.st 6 scAsk.nd (Ev.cl CD hr (by decide) rfl (EvA.cons (.nm 7) (EvA.cons (.nm 6) .nil)) (.ok wm sm (by decide) e1 (sm_szc e2 (by omega))) (.none rfl))) <|
            Ex.one (ES.skip (EvT.not (EvT.val (Ev.cl CS hr (by decide) rfl (EvA.cons (.nm 5) (EvA.cons (.nm 6) .nil)) (same_ok (fitV (by rw [applied_len wm]; omega) (sm_szc s2 (by omega)))) (.none rfl)))) rfl), ?_⟩
          show WkL _ (askS ms (encM (prodL ms)) cells (.d (encM (prodL ms))) (.d (encV c)) (.d (encV (runC c (ms.take (k + 1))))) (.d (encV (runC c (ms.take (k + 1))))))
          rw [er]
          exact .same (.same (.same (.same (.same (.same (.same (.un rfl .nil)))))))
      · rw [List.take_length, run_prod C hl]
      · rw [applied_len pw.1]
        have := okLen_le pw.1.h1
        omega
      · exact sm_szc (Szc.applied pw.1 pw.2 sc) (by decide)
      · exact .same (.same (.same (.same (.un rfl (.un rfl (.un rfl (.same .nil)))))))
    · exact .same (.same (.same (.un rfl (.same (.same (.same (.same .nil)))))))
end
end K2

namespace DL
open PySem PySem.Spec PyProof.Rows L2
section
variable {X : Cx} {ρ ρ' ρ1 ρ2 : List Den} {pos : Pos} {W : WX}
/-- a try whose body raises, whose suite returns -/
theorem ES.tryR {x n : Str} {cv : Value} {i : Nat} {body suite : List Stmt} {b₀ : Stmt} {np pos' : Pos} {c : Addr} {ks : List Str} {ys : List PyData} {e : PyData} {r2 : Addr → Addr → List Den} {r3 : List Den} (hs : X.stack = X.env :: X.outer) (hfr : X.env.frame = some X.env.locals) (hN : X.N.Nodup) (hi : X.N[i]? = some n) (hln : X.env.kindOf n = some .local)
    (hc : Names X x cv) (tk : Takes X W) (hx : PySem.W.exmOne X.K (.ref c) cv = some true) (hf : isFix ρ1[i]? = false)
    (hb : ∀ (W' : WX) (pn : List (Addr × Obj)) (xe : Value → Shared → Prop), Takes (X.tr pn xe) W' → PassesOwn (model X.prog X.w) X.A X.env xe → Ex (X.tr pn xe) W' ρ body (.exc c ks ys ρ1))
    (hsu : ∀ (a dd : Addr) (oe : Obj) (pn : List (Addr × Obj)), Zc (.ref c) (some dd) oe → (∃ vs, oe.data = .fields vs) → Ex (X.suite a ((a, oe) :: pn)) (fun _ _ _ _ => False) (ρ1.set i (.exc a dd ks ys)) (b₀ :: suite) (.ret e (r2 a dd)))
    (hw : ∀ a dd, WkL (r2 a dd) r3) :
    ES X W ρ (.Try body [.ExceptHandler (some (.Name x np)) (some n) (b₀ :: suite) pos'] [] [] pos) (.ret e r3) := by
  refine ES.tryX hs hfr hN hi hln hc tk hx hf hb (out := .ret e r3) rfl (fun a dd oe pn hz hfl => ?_) (fun _ z => nomatch z)
  obtain ⟨t, ht, g⟩ := hsu a dd oe pn hz hfl
  refine ⟨t, ht, fun σ G H D s h => ?_⟩
  refine g σ G H D s fun v σ' G' H' n q => ?_
  obtain ⟨G2, n2⟩ := Weak.of (hw a dd) G' H' σ' n.st
  exact h v σ' G2 H' (n.trans n2) (Dp_mono n2.stp.gsub _ _ q)
end
end DL
namespace K2
open PySem PySem.Spec PyProof.Rows L2 DL
section
variable {P : Program} {w : World} {K : PySem.W.Frag} {mg : Str → Option Value} {base : Heap} {cB fB cM fM cD cT cP : Addr}
/-- the classes, as the clause and the suite ask -/
structure Kit (K : PySem.W.Frag) (mg : Str → Option Value) (cB cM cD cT cP : Addr) : Prop where
  gP : mg "PictureError" = some (.ref cP)
  gB : mg "BadCell" = some (.ref cB)
  gM : mg "BadMap" = some (.ref cM)
  gD : mg "BadDim" = some (.ref cD)
  gT : mg "TooMany" = some (.ref cT)
  xB : ExcK K cB
  xM : ExcK K cM
  bP : PySem.W.exmOne K (.ref cB) (.ref cP) = some true
  mP : PySem.W.exmOne K (.ref cM) (.ref cP) = some true
  bB : PySem.W.kitOne K (.ref cB) (.ref cB) = some true
  bM : PySem.W.kitOne K (.ref cB) (.ref cM) = some false
  bD : PySem.W.kitOne K (.ref cB) (.ref cD) = some false
  bT : PySem.W.kitOne K (.ref cB) (.ref cT) = some false
  bV : PySem.W.kitOne K (.ref cB) (.type "ValueError") = some true
  mB : PySem.W.kitOne K (.ref cM) (.ref cB) = some false
  mM : PySem.W.kitOne K (.ref cM) (.ref cM) = some true
  mD : PySem.W.kitOne K (.ref cM) (.ref cD) = some false
  mT : PySem.W.kitOne K (.ref cM) (.ref cT) = some false
  mV : PySem.W.kitOne K (.ref cM) (.type "ValueError") = some true
  nB : PySem.W.findIn K (.ref cB) "length" = some none
  nM : PySem.W.findIn K (.ref cM) "why" = some none
def sayB (n : Nat) : PyData := .tuple [.str "BadCell", .int n]
def sayM (x : Str) : PyData := .tuple [.str "BadMap", .str x]
def sayN : PyData := .tuple [.str "none", .int (-1)]
inductive RRefused : List Den → Out → Prop
  | app {m : Mp} {c : List Int} {w h : Nat} : Wf m w h → c.length ≠ w → RRefused [.d (.int 0), .d (encM m), .d (encV c)] (.ret (sayB c.length) [.d (.int 0), .d (encM m), .d (encV c)])
  | hal {f g : Mp} : 0 < f.hv → RRefused [.d (.int 1), .d (encM f), .d (encM g)] (.ret (sayM "halvings") [.d (.int 1), .d (encM f), .d (encM g)])
  | dim {f g : Mp} {w h w' h' : Nat} : f.hv = 0 → Wf f w h → Wf g w' h' → h ≠ w' → RRefused [.d (.int 1), .d (encM f), .d (encM g)] (.ret (sayM "dim") [.d (.int 1), .d (encM f), .d (encM g)])
  | fine {f g : Mp} {w h h' kf kg : Nat} : Wf f w h → Wf g h h' → f.hv = 0 → Sz kf f → Sz kg g → kf ≤ 1900 → kg ≤ 1900 → RRefused [.d (.int 1), .d (encM f), .d (encM g)] (.ret sayN [.d (.int 1), .d (encM f), .d (encM g)])
  | shf {ds : List PyData} {y : PyData} : okLen ds.length = false → RRefused [.d (.int 2), .d (.tuple ds), .d y] (.ret (sayB ds.length) [.d (.int 2), .d (.tuple ds), .d y])
abbrev refN : List Str := ["mode", "one", "two", "e", "row"]
theorem scRef : FnScope refN ["mode", "one", "two"] (defScope (top 29)) := ⟨rfl, rfl, rfl, by decide +kernel, rfl, by decide +kernel, by decide +kernel⟩
def trySt : Stmt := (defBody (top 29)).headD (.Pass ⟨0, 0, 0, 0⟩)
def tryBody : Stmt → List Stmt
  | .Try b _ _ _ _ => b
  | _ => []
def trySuite : Stmt → List Stmt
  | .Try _ [.ExceptHandler _ _ s _] _ _ _ => s
  | _ => []
theorem suiteB {X : Cx} {a dd : Addr} {oe : Obj} {pn : List (Addr × Obj)} {d1 d2 d3 : PyData} {n : Nat} {f : Addr} {cdv : Value} {A : Around} {outer : List Env} {s : Shared} {H : Hp} {E : XK} (B : Bt mg) (T : Kit K mg cB cM cD cT cP)
    (hX : X = cxOf (L2.CX P w) P w K mg base refN "_law_refused" (defScope (top 29)) f cdv A outer s H E) (hz : Zc (.ref cB) (some dd) oe) (hf : ∃ vs, oe.data = .fields vs) :
    Ex (X.suite a ((a, oe) :: pn)) (fun _ _ _ _ => False) [.d d1, .d d2, .d d3, .exc a dd ["length"] [.int n], .un] (trySuite trySt)
      (.ret (sayB n) [.d d1, .d d2, .d d3, .exc a dd ["length"] [.int n], .d (.list [.bool true, .bool false, .bool false, .bool false])]) := by
  subst hX
  refine Ex.cons (ES.stF 4 scRef.nd (EvO.lst (ds := [_, _, _, _]) (EvA.cons (Ev.isX T.xB hz hf rfl rfl B.isi 3 rfl rfl (Or.inl rfl) (by decide) (by decide) (EvV.glob (v := .ref cB) rfl T.gB rfl) (fun u r => r) T.bB)
    (EvA.cons (Ev.isX T.xB hz hf rfl rfl B.isi 3 rfl rfl (Or.inl rfl) (by decide) (by decide) (EvV.glob (v := .ref cM) rfl T.gM rfl) (fun u r => r) T.bM) (EvA.cons (Ev.isX T.xB hz hf rfl rfl B.isi 3 rfl rfl (Or.inl rfl) (by decide) (by decide) (EvV.glob (v := .ref cD) rfl T.gD rfl) (fun u r => r) T.bD)
    (EvA.cons (Ev.isX T.xB hz hf rfl rfl B.isi 3 rfl rfl (Or.inl rfl) (by decide) (by decide) (EvV.glob (v := .ref cT) rfl T.gT rfl) (fun u r => r) T.bT) .nil)))) (by show 4 ≤ sizeLine; decide))) <|
    Ex.cons (ES.skip (EvW.t (EvW.or (EvT.neI (Ev.countB (bs := [true, false, false, false]) (.nm 4)) .int) (fun _ => EvW.or1 (EvT.not (EvT.val (Ev.isX T.xB hz hf rfl rfl B.isi 3 rfl rfl (Or.inl rfl) (by decide) (by decide) (EvV.bltn (v := .ty "ValueError") rfl B.ve Boot.«ValueError» rfl) (fun u r => r) T.bV)))))) (by decide)) <|
    Ex.stop (ES.ifT (EvT.val (Ev.isX T.xB hz hf rfl rfl B.isi 3 rfl rfl (Or.inl rfl) (by decide) (by decide) (EvV.glob (v := .ref cB) rfl T.gB rfl) (fun u r => r) T.bB)) rfl (Ex.one (ES.ret (Ev.tu2 .str (Ev.fldX T.xB T.nB hz hf 3 rfl ?_ rfl (Or.inl rfl))))))
  rfl
theorem suiteM {X : Cx} {a dd : Addr} {oe : Obj} {pn : List (Addr × Obj)} {d1 d2 d3 : PyData} {n : Str} {f : Addr} {cdv : Value} {A : Around} {outer : List Env} {s : Shared} {H : Hp} {E : XK} (B : Bt mg) (T : Kit K mg cB cM cD cT cP)
    (hX : X = cxOf (L2.CX P w) P w K mg base refN "_law_refused" (defScope (top 29)) f cdv A outer s H E) (hz : Zc (.ref cM) (some dd) oe) (hf : ∃ vs, oe.data = .fields vs) :
    Ex (X.suite a ((a, oe) :: pn)) (fun _ _ _ _ => False) [.d d1, .d d2, .d d3, .exc a dd ["why"] [.str n], .un] (trySuite trySt)
      (.ret (sayM n) [.d d1, .d d2, .d d3, .exc a dd ["why"] [.str n], .d (.list [.bool false, .bool true, .bool false, .bool false])]) := by
  subst hX
  refine Ex.cons (ES.stF 4 scRef.nd (EvO.lst (ds := [_, _, _, _]) (EvA.cons (Ev.isX T.xM hz hf rfl rfl B.isi 3 rfl rfl (Or.inl rfl) (by decide) (by decide) (EvV.glob (v := .ref cB) rfl T.gB rfl) (fun u r => r) T.mB)
    (EvA.cons (Ev.isX T.xM hz hf rfl rfl B.isi 3 rfl rfl (Or.inl rfl) (by decide) (by decide) (EvV.glob (v := .ref cM) rfl T.gM rfl) (fun u r => r) T.mM) (EvA.cons (Ev.isX T.xM hz hf rfl rfl B.isi 3 rfl rfl (Or.inl rfl) (by decide) (by decide) (EvV.glob (v := .ref cD) rfl T.gD rfl) (fun u r => r) T.mD)
    (EvA.cons (Ev.isX T.xM hz hf rfl rfl B.isi 3 rfl rfl (Or.inl rfl) (by decide) (by decide) (EvV.glob (v := .ref cT) rfl T.gT rfl) (fun u r => r) T.mT) .nil)))) (by show 4 ≤ sizeLine; decide))) <|
    Ex.cons (ES.skip (EvW.t (EvW.or (EvT.neI (Ev.countB (bs := [false, true, false, false]) (.nm 4)) .int) (fun _ => EvW.or1 (EvT.not (EvT.val (Ev.isX T.xM hz hf rfl rfl B.isi 3 rfl rfl (Or.inl rfl) (by decide) (by decide) (EvV.bltn (v := .ty "ValueError") rfl B.ve Boot.«ValueError» rfl) (fun u r => r) T.mV)))))) (by decide)) <|
    Ex.cons (ES.skip (EvT.val (Ev.isX T.xM hz hf rfl rfl B.isi 3 rfl rfl (Or.inl rfl) (by decide) (by decide) (EvV.glob (v := .ref cB) rfl T.gB rfl) (fun u r => r) T.mB)) rfl) <|
    Ex.stop (ES.ifT (EvT.val (Ev.isX T.xM hz hf rfl rfl B.isi 3 rfl rfl (Or.inl rfl) (by decide) (by decide) (EvV.glob (v := .ref cM) rfl T.gM rfl) (fun u r => r) T.mM)) rfl (Ex.one (ES.ret (Ev.tu2 .str (Ev.fldX T.xM T.nM hz hf 3 rfl ?_ rfl (Or.inl rfl))))))
  rfl
theorem ok_refused (D : Def K mg "_law_refused" (top 29) ["mode", "one", "two"]) (B : Bt mg) (T : Kit K mg cB cM cD cT cP) (CA : Cl P w K mg base 4 "applied" ["mapping", "cell"] (RApplied cB)) (CF : Cl P w K mg base 2 "after" ["first", "second"] (RAfter cM)) (CS : Cl P w K mg base 3 "shift_map" ["vector"] (RShift cB)) :
    Cl P w K mg base 5 "_law_refused" ["mode", "one", "two"] RRefused := by
  refine .of (N := refN) D scRef (by decide) (fun as o h => by cases h <;> exact ⟨rfl, rfl⟩) ?_
  rintro X W ⟨f, cdv, A, outer, s, H, E, rfl⟩ hr tk po as o h
  have nm : Names (cxOf (L2.CX P w) P w K mg base refN "_law_refused" (defScope (top 29)) f cdv A outer s H E) "PictureError" (.ref cP) := ⟨rfl, by decide, .inl T.gP⟩
  cases h with
  | @app m c w h Wm hc =>
    exact ⟨.ret (sayB c.length) _, rfl, Ex.stop (ES.tryR (i := 3) (ρ1 := [.d (.int 0), .d (encM m), .d (encV c), .un, .un]) rfl rfl scRef.nd rfl rfl nm tk T.bP rfl (fun W' pn xe tk' po' => Ex.stop (ES.ifT (EvT.eqI (.nm 0) .int) rfl (Ex.one (ES.clX CA hr (by decide) rfl tk' (EvA.cons (.nm 1) (EvA.cons (.nm 2) .nil)) (.bad Wm hc) (.none rfl)))))
      (fun a dd oe pn hz hf => suiteB B T rfl hz hf) (fun _ _ => .same (.same (.same (.un rfl (.un rfl .nil))))))⟩
  | @hal m n hm =>
    exact ⟨.ret (sayM "halvings") _, rfl, Ex.stop (ES.tryR (i := 3) (ρ1 := [.d (.int 1), .d (encM m), .d (encM n), .un, .un]) rfl rfl scRef.nd rfl rfl nm tk T.mP rfl (fun W' pn xe tk' po' => Ex.cons (ES.skip (EvT.eqI (.nm 0) .int) rfl) <| Ex.stop (ES.ifT (EvT.eqI (.nm 0) .int) rfl (Ex.one (ES.clX CF hr (by decide) rfl tk' (EvA.cons (.nm 1) (EvA.cons (.nm 2) .nil)) (.hal hm) (.none rfl)))))
      (fun a dd oe pn hz hf => suiteM B T rfl hz hf) (fun _ _ => .same (.same (.same (.un rfl (.un rfl .nil))))))⟩
  | @dim m n w h w' h' hz Wm Wn hne =>
    exact ⟨.ret (sayM "dim") _, rfl, Ex.stop (ES.tryR (i := 3) (ρ1 := [.d (.int 1), .d (encM m), .d (encM n), .un, .un]) rfl rfl scRef.nd rfl rfl nm tk T.mP rfl (fun W' pn xe tk' po' => Ex.cons (ES.skip (EvT.eqI (.nm 0) .int) rfl) <| Ex.stop (ES.ifT (EvT.eqI (.nm 0) .int) rfl (Ex.one (ES.clX CF hr (by decide) rfl tk' (EvA.cons (.nm 1) (EvA.cons (.nm 2) .nil)) (.dim hz Wm Wn hne) (.none rfl)))))
      (fun a dd oe pn hz hf => suiteM B T rfl hz hf) (fun _ _ => .same (.same (.same (.un rfl (.un rfl .nil))))))⟩
  | @shf ds y hd =>
    exact ⟨.ret (sayB ds.length) _, rfl, Ex.stop (ES.tryR (i := 3) (ρ1 := [.d (.int 2), .d (.tuple ds), .d y, .un, .un]) rfl rfl scRef.nd rfl rfl nm tk T.bP rfl (fun W' pn xe tk' po' => Ex.cons (ES.skip (EvT.eqI (.nm 0) .int) rfl) <| Ex.cons (ES.skip (EvT.eqI (.nm 0) .int) rfl) <| Ex.stop (ES.ifT (EvT.eqI (.nm 0) .int) rfl (Ex.one (ES.clX CS hr (by decide) rfl tk' (EvA.cons (.nm 1) .nil) (.bad hd) (.none rfl)))))
      (fun a dd oe pn hz hf => suiteB B T rfl hz hf) (fun _ _ => .same (.same (.same (.un rfl (.un rfl .nil))))))⟩
  | @fine m n w h h' km kn Wm Wn hz s1 s2 hk1 hk2 =>
    exact ⟨.ret sayN _, rfl, Ex.cons (ES.tryN (i := 3) rfl rfl scRef.nd rfl rfl nm tk (fun W' pn xe tk' po' => Ex.cons (ES.skip (EvT.eqI (.nm 0) .int) rfl) <| Ex.cons (ES.ifT (EvT.eqI (.nm 0) .int) rfl (Ex.one (ES.expr (Ev.cl CF hr (by decide) rfl (EvA.cons (.nm 1) (EvA.cons (.nm 2) .nil)) (.ok Wm Wn hz s1 s2 hk1 hk2) (.none rfl))))) <| Ex.one (ES.skip (EvT.eqI (.nm 0) .int) rfl))
      (fun _ _ _ _ z => nomatch z) (fun a oe cls d pn hz hf => ⟨_, pss_never⟩)) <| Ex.one (ES.ret (Ev.tu2 .str (.neg .int)))⟩
end
end K2

namespace DL
open PySem PySem.Spec PyProof.Rows L2
section
variable {X : Cx} {ρ ρ' ρ1 ρ2 : List Den} {pos : Pos} {W : WX}
theorem Ev.clO {R : List Den → Out → Prop} {k k' : Nat} {ps : List Str} {x : Str} {p : Pos} {e : Expr} {es : List Expr} {args : List Arg} {ds : List PyData} {d : PyData} {as' : List Den}
    (C : Cl X.prog X.w X.K X.mg X.base k x ps R) (hr : Rm k' X.A) (hk : k ≤ k') (hg : Gl X x) (h1 : EvO X ρ e ds ρ1) (ha : EvA X ρ1 es args ρ2) (hR : R (.own true ds :: args.map (argDen ρ2)) (.ret d as')) (hn : noSl args = true := by rfl)
    (hdb : (x == ("__debug__" : Str)) = false := by decide) (he : starEach (e :: es) X.env = (false, eval e X.env) :: starEach es X.env := by rfl) (hpl : (backTo pos (starEach es X.env)).any (·.1) = false := by rfl) :
    Ev X ρ (.Call (.Name x p) (e :: es) [] pos) d ρ2 := by
  obtain ⟨f, fd, F, g, kp, b, _⟩ := C.ex
  exact .callO F (hr.mono hk) hg g kp b h1 ha hn hR hdb he hpl
end
end DL
namespace K2
open PySem PySem.Spec PyProof.Rows L2 DL
section
variable {P : Program} {w : World} {K : PySem.W.Frag} {mg : Str → Option Value} {base : Heap} {cB fB cM fM cD cT cP : Addr}
theorem fitSM {x : Str} (h1 : PyData.strOk x = true) (h2 : x.length ≤ 100) : Fits 3 1 (sayM x) := (FitsAll.cons (Fits.str (by decide +kernel) (by decide +kernel)) (FitsAll.cons (Fits.str h1 h2) FitsAll.nil)).tup
theorem fitSB {n : Nat} (h : n ≤ 100) : Fits 3 1 (sayB n) := (FitsAll.cons (Fits.str (by decide +kernel) (by decide +kernel)) (FitsAll.cons (Fits.int (by
  have : (n : Int).natAbs = n := Int.natAbs_natCast _
  have : 100 < 2 ^ 1900 := by decide +kernel
  omega)) FitsAll.nil)).tup
theorem fitSN : Fits 3 1 sayN := (FitsAll.cons (Fits.str (by decide +kernel) (by decide +kernel)) (FitsAll.cons (Fits.int (by decide +kernel)) FitsAll.nil)).tup
/-! ### _law_joined -/
inductive RJoined : List Den → Out → Prop
  | ok {m : Mp} {ms : List Mp} {w h w2 h2 : Nat} : Wf m w h → Sz 946 m → Chain w2 ms h2 → RJoined [.d (encM m), .d (encM m), .d (encL ms)] (.ret (.bool true) [.d (encM m), .d (encM m), .d (encL ms)])
abbrev joinN : List Str := ["told", "due", "chain", "more", "whole"]
theorem scJoin : FnScope joinN ["told", "due", "chain"] (defScope (top 30)) := ⟨rfl, rfl, rfl, by decide +kernel, rfl, by decide +kernel, by decide +kernel⟩
theorem ok_joined (D : Def K mg "_law_joined" (top 30) ["told", "due", "chain"]) (B : Bt mg) (CL : Cl P w K mg base 3 "_law_left" ["chain"] RFold) (CR : Cl P w K mg base 3 "_law_right" ["chain"] RRight) (CS : Cl P w K mg base 1 "_law_same" ["told", "due"] RSame)
    (CX : Cl P w K mg base 5 "_law_refused" ["mode", "one", "two"] RRefused) (CT : Cl P w K mg base 1 "_law_then" ["first", "second"] RThen) (CF : Cl P w K mg base 2 "_law_folded" ["chain"] RFold) (CA : Cl P w K mg base 2 "after" ["first", "second"] (RAfter cM)) :
    Cl P w K mg base 6 "_law_joined" ["told", "due", "chain"] RJoined := by
  refine .of (N := joinN) D scJoin (by decide) (fun as o h => by cases h <;> exact ⟨rfl, rfl⟩) ?_
  rintro X W ⟨f, cdv, A, outer, s, H, E, rfl⟩ hr tk po as o h
  cases h with | @ok m ms w h w2 h2 Wm Sm0 C => ?_
  have pw := C.prod
  by_cases hz : 0 < m.hv
  · exact ⟨.ret (.bool true) _, rfl, Ex.cons (ES.st 3 scJoin.nd (Ev.cl CL hr (by decide) rfl (EvA.cons (.nm 2) .nil) (.ok C) (.none rfl))) <|
      Ex.stop (ES.ifT (EvT.gt (.ixT (.nm 1) .int at3_2) .int) (by simpa using hz) (Ex.one (ES.ret (Ev.cl CS hr (by decide) rfl (EvA.cons (Ev.cl CX hr (by decide) rfl (EvA.cons .int (EvA.cons (.nm 0) (EvA.cons (.nm 3) .nil))) (.hal hz) (.none rfl)) (EvA.cons (Ev.tu2 .str .str) .nil)) (same_ok (fitSM (by decide +kernel) (by decide +kernel))) (.none rfl)))))⟩
  · have hz0 : m.hv = 0 := by omega
    have hzd : decide ((0 : Int) < (m.hv : Int)) = false := by rw [hz0]; rfl
    cases ms with
    | nil => exact absurd rfl C.ne
    | cons m0 rest =>
      obtain ⟨h0, w0⟩ : ∃ h0, Wf m0 w2 h0 := by
        cases C.ch with
        | cons wm _ => exact ⟨_, wm⟩
      obtain ⟨r0, rs, e0, l0⟩ := w0.head
      have x0 : atI (m0.rows.map encV) 0 = some (encV r0) := by rw [e0]; exact atI_at (n := 0) rfl
      have c0 : atI ((m0 :: rest).map encM) 0 = some (encM m0) := atI_at (n := 0) rfl
      by_cases hd : h = w2
      · subst hd
        have wa := Wm.after pw.1
        have sa := Sz.after Wm pw.1 Sm0 pw.2
        have fa := fitM wa sa (by decide)
        refine ⟨.ret (.bool true) _, rfl, Ex.cons (ES.st 3 scJoin.nd (Ev.cl CL hr (by decide) rfl (EvA.cons (.nm 2) .nil) (.ok C) (.none rfl))) <|
          Ex.cons (ES.skip (EvT.gt (.ixT (.nm 1) .int at3_2) .int) hzd) <|
          Ex.cons (ES.skip (EvT.neI (Ev.len (k := false) rfl rfl B.len (.ixT (.nm 1) .int at3_0)) (Ev.len (k := false) rfl rfl B.len (.ixT (.ixT (.ixL (.nm 2) .int c0) .int at3_0) .int x0))) ?_) <|
          Ex.cons (ES.st 4 scJoin.nd (Ev.cl CT hr (by decide) rfl (EvA.cons (.nm 1) (EvA.cons (Ev.cl CF hr (by decide) rfl (EvA.cons (.nm 2) .nil) (.ok C) (.none rfl)) .nil)) (.ok Wm pw.1 Sm0 pw.2 (by decide) (by decide)) (.none rfl))) <|
          Ex.cons (ES.skip (EvT.not (EvT.val (Ev.cl CS hr (by decide) rfl (EvA.cons (Ev.cl CA hr (by decide) rfl (EvA.cons (.nm 0) (EvA.cons (.nm 3) .nil)) (.ok Wm pw.1 hz0 Sm0 pw.2 (by decide) (by decide)) (.none rfl)) (EvA.cons (.nm 4) .nil)) (same_ok fa) (.none rfl)))) rfl) <|
          Ex.one (ES.ret (Ev.cl CS hr (by decide) rfl (EvA.cons (Ev.cl CR hr (by decide) rfl (EvA.consC (d' := encL (m :: m0 :: rest)) (EvO.ev (EvO.cat (EvO.ev (EvO.li1 (.nm 0))) (.nm 2) ?_)) rfl .nil) (right_cons C Wm hz0 Sm0 (by decide)) (.none rfl)) (EvA.cons (.nm 4) .nil)) (same_ok fa) (.none rfl)))⟩
        · simp only [List.length_map, Wm.rl, l0]
          simp
        · have := C.len
          rw [sizeLine_eq]
          simp at this ⊢
          omega
      · refine ⟨.ret (.bool true) _, rfl, Ex.cons (ES.st 3 scJoin.nd (Ev.cl CL hr (by decide) rfl (EvA.cons (.nm 2) .nil) (.ok C) (.none rfl))) <|
          Ex.cons (ES.skip (EvT.gt (.ixT (.nm 1) .int at3_2) .int) hzd) <|
          Ex.stop (ES.ifT (EvT.neI (Ev.len (k := false) rfl rfl B.len (.ixT (.nm 1) .int at3_0)) (Ev.len (k := false) rfl rfl B.len (.ixT (.ixT (.ixL (.nm 2) .int c0) .int at3_0) .int x0))) ?_
            (Ex.one (ES.ret (Ev.cl CS hr (by decide) rfl (EvA.cons (Ev.cl CX hr (by decide) rfl (EvA.cons .int (EvA.cons (.nm 0) (EvA.cons (.nm 3) .nil))) (.dim hz0 Wm pw.1 hd) (.none rfl)) (EvA.cons (Ev.tu2 .str .str) .nil)) (same_ok (fitSM (by decide +kernel) (by decide +kernel))) (.none rfl)))))⟩
        simp only [List.length_map, Wm.rl, l0, decide_eq_true_eq]
        omega
end
end K2

namespace K2
open PySem PySem.Spec PyProof.Rows L2 DL
section
variable {P : Program} {wo : World} {K : PySem.W.Frag} {mg : Str → Option Value} {base : Heap} {cB fB cM fM cD cT cP : Addr}
/-! ### _law_shifts -/
def shO : Int := 10 ^ 20
def shP : Int := 5 * 10 ^ 19
inductive RShifts : List Den → Out → Prop
  | ok {p : Int} {m : Mp} {w h : Nat} : Wf m w h → Sz 946 m → RShifts [.own true [.int p], .d (encM m), .d (encM m)] (.ret (.bool true) [.own true [.int (dv (dv p shO h) shO h)], .d (encM m), .d (encM m)])
abbrev shN : List Str := ["pool", "told", "due", "wide", "high", "one", "two", "both", "moved", "i", "x", "y"]
theorem scShifts : FnScope shN ["pool", "told", "due"] (defScope (top 28)) := ⟨rfl, rfl, rfl, by decide +kernel, rfl, by decide +kernel, by decide +kernel⟩
abbrev shS (p : Int) (m : Mp) (w h : Nat) (one two both : Den) : List Den := [.own true [.int p], .d (encM m), .d (encM m), .d (.int w), .d (.int h), one, two, both, .un, .un, .un, .un]
theorem repI (n : Nat) (x : Int) : (List.replicate ((n : Int)).toNat [PyData.int x]).flatten = (List.replicate n x).map .int := by
  rw [Int.toNat_natCast]
  simp
theorem zipAdd (u v : List Int) : (u.zip v).map (fun p => p.1 + p.2) = List.zipWith (· + ·) u v := by
  rw [List.map_zip_eq_zipWith]
  rfl
theorem digs_szc {p : Int} {n : Nat} : Szc 70 (digs p shO n shP) := fun x hx => by
  have h1 := digs_b (show (0 : Int) < shO by decide) hx
  have h2 : shP = 50000000000000000000 := by decide
  have h3 : shO = 100000000000000000000 := by decide
  have h4 : (2 : Nat) ^ 70 = 1180591620717411303424 := by decide
  omega
theorem add_szc {k : Nat} {u v : List Int} (hu : Szc k u) (hv : Szc k v) : Szc (k + 1) (List.zipWith (· + ·) u v) := fun x hx => by
  rw [← zipAdd] at hx
  obtain ⟨p, hp, rfl⟩ := List.mem_map.mp hx
  have hm := List.of_mem_zip hp
  have h1 := hu _ hm.1
  have h2 := hv _ hm.2
  have : 2 ^ (k + 1) = 2 * 2 ^ k := by rw [Nat.pow_succ]; omega
  omega
theorem ok_shifts (D : Def K mg "_law_shifts" (top 28) ["pool", "told", "due"]) (B : Bt mg) (CD : Cl P wo K mg base 1 "_law_draw" ["pool", "most"] RDraw) (CS : Cl P wo K mg base 1 "_law_same" ["told", "due"] RSame) (CX : Cl P wo K mg base 5 "_law_refused" ["mode", "one", "two"] RRefused)
    (CH : Cl P wo K mg base 3 "shift_map" ["vector"] (RShift cB)) (CU : Cl P wo K mg base 1 "_law_unit" ["dim"] RUnit) (CA : Cl P wo K mg base 2 "after" ["first", "second"] (RAfter cM)) : Cl P wo K mg base 6 "_law_shifts" ["pool", "told", "due"] RShifts := by
  refine .of (N := shN) D scShifts (by decide) (fun as o h => by cases h <;> exact ⟨rfl, rfl⟩) ?_
  rintro X W ⟨f, cdv, A, outer, s, H, E, rfl⟩ hr tk po as o h
  cases h with | @ok p m w h Wm Sm0 => ?_
  obtain ⟨r0, rs, e0, l0⟩ := Wm.head
  have x0 : atI (m.rows.map encV) 0 = some (encV r0) := by rw [e0]; exact atI_at (n := 0) rfl
  have hw := okLen_le Wm.w1
  have hh := okLen_le Wm.h1
  have c20 : CPow 10 20 := by unfold CPow; omega
  have c19 : CPow 10 19 := by unfold CPow; omega
  have m19 : CMulW 5 ((10 : Int) ^ ((19 : Int)).toNat) := by unfold CMulW; decide +kernel
  have sO : Sm shO := Sm.of (k := 100) (by decide)
  have eO : PyData.int ((10 : Int) ^ ((20 : Int)).toNat) = .int shO := rfl
  have eP : PyData.int (5 * (10 : Int) ^ ((19 : Int)).toNat) = .int shP := rfl
  -- one, two, both
  generalize h1 : digs p shO h shP = one
  generalize h2 : digs (dv p shO h) shO h shP = two
  have l1 : one.length = h := by rw [← h1, digs_len]
  have l2 : two.length = h := by rw [← h2, digs_len]
  have s1 : Szc 70 one := by rw [← h1]; exact digs_szc
  have s2 : Szc 70 two := by rw [← h2]; exact digs_szc
  have s3 : Szc 71 (List.zipWith (· + ·) one two) := add_szc s1 s2
  have l3 : (List.zipWith (· + ·) one two).length = h := by simp [l1, l2]
  have k1 : okLen one.length = true := by rw [l1]; exact Wm.h1
  have k2 : okLen two.length = true := by rw [l2]; exact Wm.h1
  have k3 : okLen (List.zipWith (· + ·) one two).length = true := by rw [l3]; exact Wm.h1
  have w1 := Wf.shift k1
  have w2 := Wf.shift k2
  have w3 := Wf.shift k3
  rw [l1] at w1
  rw [l2] at w2
  rw [l3] at w3
  have z1 := Sz.shift s1 (by decide)
  have z2 := Sz.shift s2 (by decide)
  have z3 := Sz.shift s3 (by decide)
  have f1 := fitM w1 z1 (by decide)
  have f3 := fitM w3 z3 (by decide)
  have fm := fitM Wm Sm0 (by decide)
  have kw : okLen (List.replicate w (0 : Int)).length = true := by rw [List.length_replicate]; exact Wm.w1
  have kh : okLen (List.replicate h (0 : Int)).length = true := by rw [List.length_replicate]; exact Wm.h1
  have ww : Wf (shiftM (List.replicate w 0)) w w := by
    have := Wf.shift kw
    rwa [List.length_replicate] at this
  have wh : Wf (shiftM (List.replicate h 0)) h h := by
    have := Wf.shift kh
    rwa [List.length_replicate] at this
  have zr : ∀ n, Szc 1 (List.replicate n (0 : Int)) := fun n x hx => by
    rw [(List.mem_replicate.mp hx).2]
    decide
  have zw := Sz.shift (zr w) (by decide)
  have zh := Sz.shift (zr h) (by decide)
  have u1 : PyData.tuple [encR (unit h), encV one, .int 0] = encM (shiftM one) := by unfold shiftM; rw [l1]; rfl
  have u3 : PyData.tuple [encR (unit h), encV (List.zipWith (· + ·) one two), .int 0] = encM (shiftM (List.zipWith (· + ·) one two)) := by unfold shiftM; rw [l3]; rfl
  have e12 : encM (afterM (shiftM one) (shiftM two)) = encM (shiftM (List.zipWith (· + ·) one two)) := congrArg encM (shift_shift (by rw [l1, l2]) k1)
  have e0m : encM (afterM (shiftM (List.replicate w 0)) m) = encM m := congrArg encM (shift_zero_l Wm)
  by_cases hz : 0 < m.hv
  · refine ⟨.ret (.bool true) _, rfl, Ex.cons (ES.st 3 scShifts.nd (Ev.cast (d' := .int w) (Ev.len (k := false) rfl rfl B.len (.ixT (.ixT (.nm 2) .int at3_0) .int x0)) (by rw [List.length_map, l0]))) <|
    Ex.cons (ES.st 4 scShifts.nd (Ev.cast (d' := .int h) (Ev.len (k := false) rfl rfl B.len (.ixT (.nm 2) .int at3_0)) (by rw [List.length_map, Wm.rl]))) <|
    Ex.cons (ES.st 5 scShifts.nd (Ev.cast (d' := encV one) (Ev.tupO rfl rfl B.tuple (LcC.ev (own := [("i", 9)]) (LcC.go (ρ3 := shS (dv p shO h) m w h .un .un .un) (List.range h) (fun i => .int (dv p shO i % shO - shP)) (fun i => shS (dv p shO i) m w h .un .un .un) (EvI.rng rfl B.range (.nm 4) (by omega)) ?_ ?_ ?_ ?_) rfl scShifts.nd (blkOk_by rfl))) ?_)) <|
    Ex.cons (ES.st 6 scShifts.nd (Ev.cast (d' := encV two) (Ev.tupO rfl rfl B.tuple (LcC.ev (own := [("i", 9)]) (LcC.go (ρ3 := shS (dv (dv p shO h) shO h) m w h (.d (encV one)) .un .un) (List.range h) (fun i => .int (dv (dv p shO h) shO i % shO - shP)) (fun i => shS (dv (dv p shO h) shO i) m w h (.d (encV one)) .un .un) (EvI.rng rfl B.range (.nm 4) (by omega)) ?_ ?_ ?_ ?_) rfl scShifts.nd (blkOk_by rfl))) ?_)) <|
    Ex.cons (ES.st 7 scShifts.nd (Ev.cast (d' := encV (List.zipWith (· + ·) one two)) (Ev.tupO rfl rfl B.tuple (LcC.ev (own := [("x", 10), ("y", 11)]) (LcC.map (one.zip two) (fun p => .int (p.1 + p.2)) (EvI.cast (EvI.zip2 (k1 := false) (k2 := false) rfl B.zip (.nm 5) (.nm 6)) (zip_pair _ _)) ?_ ?_ ?_) rfl scShifts.nd (blkOk_by rfl))) (by rw [← zipAdd]; simp [encV]))) <|
    Ex.cons (ES.skip (EvT.not (EvT.val (Ev.cl CS hr (by decide) rfl (EvA.cons (Ev.cl CH hr (by decide) rfl (EvA.cons (.nm 5) .nil) (.ok k1) (.none rfl)) (EvA.consC (Ev.tu3 (Ev.cl CU hr (by decide) rfl (EvA.cons (.nm 4) .nil) (.ok hh.2) (.none rfl)) (.nm 5) .int) u1 .nil)) (same_ok f1) (.none rfl)))) rfl) <|
    Ex.cons (ES.skip (EvT.not (EvT.val (Ev.cl CS hr (by decide) rfl (EvA.consC (Ev.cl CA hr (by decide) rfl (EvA.cons (Ev.cl CH hr (by decide) rfl (EvA.cons (.nm 5) .nil) (.ok k1) (.none rfl)) (EvA.cons (Ev.cl CH hr (by decide) rfl (EvA.cons (.nm 6) .nil) (.ok k2) (.none rfl)) .nil)) (.ok w1 w2 rfl z1 z2 (by decide) (by decide)) (.none rfl)) e12 (EvA.cons (Ev.cl CH hr (by decide) rfl (EvA.cons (.nm 7) .nil) (.ok k3) (.none rfl)) .nil)) (same_ok f3) (.none rfl)))) rfl) <|
    Ex.cons (ES.skip (EvT.not (EvT.val (Ev.cl CS hr (by decide) rfl (EvA.cons (Ev.cl CH hr (by decide) rfl (EvA.cons (.nm 7) .nil) (.ok k3) (.none rfl)) (EvA.consC (Ev.tu3 (Ev.cl CU hr (by decide) rfl (EvA.cons (.nm 4) .nil) (.ok hh.2) (.none rfl)) (.nm 7) .int) u3 .nil)) (same_ok f3) (.none rfl)))) rfl) <|
    Ex.cons (ES.skip (EvT.not (EvT.val (Ev.cl CS hr (by decide) rfl (EvA.consC (Ev.cl CA hr (by decide) rfl (EvA.cons (Ev.cl CH hr (by decide) rfl (EvA.consC (Ev.repT (Ev.tu1 .int) (.nm 3) (by omega) (by omega) (by show 1 ≤ 1000; decide)) (congrArg PyData.tuple (repI w 0)) .nil) (.ok kw) (.none rfl)) (EvA.cons (.nm 1) .nil)) (.ok ww Wm rfl zw Sm0 (by decide) (by decide)) (.none rfl)) e0m (EvA.cons (.nm 2) .nil)) (same_ok fm) (.none rfl)))) rfl) <|
    Ex.stop (ES.ifT (EvT.gt (.ixT (.nm 2) .int at3_2) .int) (by simpa using hz) (Ex.one (ES.ret (Ev.cl CS hr (by decide) rfl (EvA.cons (Ev.cl CX hr (by decide) rfl (EvA.cons .int (EvA.cons (.nm 1) (EvA.cons (Ev.cl CH hr (by decide) rfl (EvA.cons (.nm 5) .nil) (.ok k1) (.none rfl)) .nil))) (.hal hz) (.none rfl)) (EvA.cons (Ev.tu2 .str .str) .nil)) (same_ok (fitSM (by decide +kernel) (by decide +kernel))) (.none rfl)))))⟩
    · exact .same (.same (.same (.same (.same (.same (.same (.same (.same (.same (.same (.same .nil)))))))))))
    · simp; omega
    · intro i x hx
      refine .p1S 9 scShifts.nd ?_ (Agr.set (i := 9) (d := .d (.int x)) .refl (by decide))
      rintro Y ⟨_, _, _, _, _, rfl⟩
      exact .sub (drw CD hr (by decide) 0 (Ev.cast (Ev.pow .int .int c20) eO) (by decide) sO) (Ev.cast (Ev.mul .int (Ev.pow .int .int c19) m19) eP)
    · rw [List.length_range]
    · rw [← h1]; simp [encV, digs]
    · exact .same (.same (.same (.same (.same (.same (.same (.same (.same (.same (.same (.same .nil)))))))))))
    · simp; omega
    · intro i x hx
      refine .p1S 9 scShifts.nd ?_ (Agr.set (i := 9) (d := .d (.int x)) .refl (by decide))
      rintro Y ⟨_, _, _, _, _, rfl⟩
      exact .sub (drw CD hr (by decide) 0 (Ev.cast (Ev.pow .int .int c20) eO) (by decide) sO) (Ev.cast (Ev.mul .int (Ev.pow .int .int c19) m19) eP)
    · rw [List.length_range]
    · rw [← h2]; simp [encV, digs]
    · exact .of
    · rw [List.length_zip]; omega
    · intro q hq
      refine .p2 10 11 rfl scShifts.nd ?_
      rintro Y ⟨_, _, _, _, _, rfl⟩
      exact .add (.nm 10) (.nm 11)
  · have hz0 : m.hv = 0 := by omega
    have hzd : decide ((0 : Int) < (m.hv : Int)) = false := by rw [hz0]; rfl
    have em0 : encM (afterM m (shiftM (List.replicate h 0))) = encM m := congrArg encM (shift_zero_r Wm hz0)
    have em1 : encM (afterM m (shiftM one)) = encM ⟨m.rows, List.zipWith (· + ·) m.off one, 0⟩ := congrArg encM (shift_r Wm hz0 l1)
    have fm1 : Fits 30 3 (encM ⟨m.rows, List.zipWith (· + ·) m.off one, 0⟩) := by
      rw [← em1]
      exact fitM (Wm.after w1) (Sz.after Wm w1 Sm0 z1) (by decide)
    refine ⟨.ret (.bool true) _, rfl, Ex.cons (ES.st 3 scShifts.nd (Ev.cast (d' := .int w) (Ev.len (k := false) rfl rfl B.len (.ixT (.ixT (.nm 2) .int at3_0) .int x0)) (by rw [List.length_map, l0]))) <|
    Ex.cons (ES.st 4 scShifts.nd (Ev.cast (d' := .int h) (Ev.len (k := false) rfl rfl B.len (.ixT (.nm 2) .int at3_0)) (by rw [List.length_map, Wm.rl]))) <|
    Ex.cons (ES.st 5 scShifts.nd (Ev.cast (d' := encV one) (Ev.tupO rfl rfl B.tuple (LcC.ev (own := [("i", 9)]) (LcC.go (ρ3 := shS (dv p shO h) m w h .un .un .un) (List.range h) (fun i => .int (dv p shO i % shO - shP)) (fun i => shS (dv p shO i) m w h .un .un .un) (EvI.rng rfl B.range (.nm 4) (by omega)) ?_ ?_ ?_ ?_) rfl scShifts.nd (blkOk_by rfl))) ?_)) <|
    Ex.cons (ES.st 6 scShifts.nd (Ev.cast (d' := encV two) (Ev.tupO rfl rfl B.tuple (LcC.ev (own := [("i", 9)]) (LcC.go (ρ3 := shS (dv (dv p shO h) shO h) m w h (.d (encV one)) .un .un) (List.range h) (fun i => .int (dv (dv p shO h) shO i % shO - shP)) (fun i => shS (dv (dv p shO h) shO i) m w h (.d (encV one)) .un .un) (EvI.rng rfl B.range (.nm 4) (by omega)) ?_ ?_ ?_ ?_) rfl scShifts.nd (blkOk_by rfl))) ?_)) <|
    Ex.cons (ES.st 7 scShifts.nd (Ev.cast (d' := encV (List.zipWith (· + ·) one two)) (Ev.tupO rfl rfl B.tuple (LcC.ev (own := [("x", 10), ("y", 11)]) (LcC.map (one.zip two) (fun p => .int (p.1 + p.2)) (EvI.cast (EvI.zip2 (k1 := false) (k2 := false) rfl B.zip (.nm 5) (.nm 6)) (zip_pair _ _)) ?_ ?_ ?_) rfl scShifts.nd (blkOk_by rfl))) (by rw [← zipAdd]; simp [encV]))) <|
    Ex.cons (ES.skip (EvT.not (EvT.val (Ev.cl CS hr (by decide) rfl (EvA.cons (Ev.cl CH hr (by decide) rfl (EvA.cons (.nm 5) .nil) (.ok k1) (.none rfl)) (EvA.consC (Ev.tu3 (Ev.cl CU hr (by decide) rfl (EvA.cons (.nm 4) .nil) (.ok hh.2) (.none rfl)) (.nm 5) .int) u1 .nil)) (same_ok f1) (.none rfl)))) rfl) <|
    Ex.cons (ES.skip (EvT.not (EvT.val (Ev.cl CS hr (by decide) rfl (EvA.consC (Ev.cl CA hr (by decide) rfl (EvA.cons (Ev.cl CH hr (by decide) rfl (EvA.cons (.nm 5) .nil) (.ok k1) (.none rfl)) (EvA.cons (Ev.cl CH hr (by decide) rfl (EvA.cons (.nm 6) .nil) (.ok k2) (.none rfl)) .nil)) (.ok w1 w2 rfl z1 z2 (by decide) (by decide)) (.none rfl)) e12 (EvA.cons (Ev.cl CH hr (by decide) rfl (EvA.cons (.nm 7) .nil) (.ok k3) (.none rfl)) .nil)) (same_ok f3) (.none rfl)))) rfl) <|
    Ex.cons (ES.skip (EvT.not (EvT.val (Ev.cl CS hr (by decide) rfl (EvA.cons (Ev.cl CH hr (by decide) rfl (EvA.cons (.nm 7) .nil) (.ok k3) (.none rfl)) (EvA.consC (Ev.tu3 (Ev.cl CU hr (by decide) rfl (EvA.cons (.nm 4) .nil) (.ok hh.2) (.none rfl)) (.nm 7) .int) u3 .nil)) (same_ok f3) (.none rfl)))) rfl) <|
    Ex.cons (ES.skip (EvT.not (EvT.val (Ev.cl CS hr (by decide) rfl (EvA.consC (Ev.cl CA hr (by decide) rfl (EvA.cons (Ev.cl CH hr (by decide) rfl (EvA.consC (Ev.repT (Ev.tu1 .int) (.nm 3) (by omega) (by omega) (by show 1 ≤ 1000; decide)) (congrArg PyData.tuple (repI w 0)) .nil) (.ok kw) (.none rfl)) (EvA.cons (.nm 1) .nil)) (.ok ww Wm rfl zw Sm0 (by decide) (by decide)) (.none rfl)) e0m (EvA.cons (.nm 2) .nil)) (same_ok fm) (.none rfl)))) rfl) <|
    Ex.cons (ES.skip (EvT.gt (.ixT (.nm 2) .int at3_2) .int) hzd) <|
    Ex.cons (ES.skip (EvT.not (EvT.val (Ev.cl CS hr (by decide) rfl (EvA.consC (Ev.cl CA hr (by decide) rfl (EvA.cons (.nm 1) (EvA.cons (Ev.cl CH hr (by decide) rfl (EvA.consC (Ev.repT (Ev.tu1 .int) (.nm 4) (by omega) (by omega) (by show 1 ≤ 1000; decide)) (congrArg PyData.tuple (repI h 0)) .nil) (.ok kh) (.none rfl)) .nil)) (.ok Wm wh hz0 Sm0 zh (by decide) (by decide)) (.none rfl)) em0 (EvA.cons (.nm 2) .nil)) (same_ok fm) (.none rfl)))) rfl) <|
    Ex.cons (ES.st 8 scShifts.nd (Ev.cast (d' := encV (List.zipWith (· + ·) m.off one)) (Ev.tupO rfl rfl B.tuple (LcC.ev (own := [("x", 10), ("y", 11)]) (LcC.map (m.off.zip one) (fun p => .int (p.1 + p.2)) (EvI.cast (EvI.zip2 (k1 := false) (k2 := false) rfl B.zip (.ixT (.nm 2) .int at3_1) (.nm 5)) (zip_pair _ _)) ?_ ?_ ?_) rfl scShifts.nd (blkOk_by rfl))) (by rw [← zipAdd]; simp [encV]))) <|
    Ex.one (ES.ret (Ev.cl CS hr (by decide) rfl (EvA.consC (Ev.cl CA hr (by decide) rfl (EvA.cons (.nm 1) (EvA.cons (Ev.cl CH hr (by decide) rfl (EvA.cons (.nm 5) .nil) (.ok k1) (.none rfl)) .nil)) (.ok Wm w1 hz0 Sm0 z1 (by decide) (by decide)) (.none rfl)) em1 (EvA.cons (Ev.tu3 (.ixT (.nm 2) .int at3_0) (.nm 8) .int) .nil)) (same_ok fm1) (.none rfl)))⟩
    · exact .same (.same (.same (.same (.same (.same (.same (.same (.same (.same (.same (.same .nil)))))))))))
    · simp; omega
    · intro i x hx
      refine .p1S 9 scShifts.nd ?_ (Agr.set (i := 9) (d := .d (.int x)) .refl (by decide))
      rintro Y ⟨_, _, _, _, _, rfl⟩
      exact .sub (drw CD hr (by decide) 0 (Ev.cast (Ev.pow .int .int c20) eO) (by decide) sO) (Ev.cast (Ev.mul .int (Ev.pow .int .int c19) m19) eP)
    · rw [List.length_range]
    · rw [← h1]; simp [encV, digs]
    · exact .same (.same (.same (.same (.same (.same (.same (.same (.same (.same (.same (.same .nil)))))))))))
    · simp; omega
    · intro i x hx
      refine .p1S 9 scShifts.nd ?_ (Agr.set (i := 9) (d := .d (.int x)) .refl (by decide))
      rintro Y ⟨_, _, _, _, _, rfl⟩
      exact .sub (drw CD hr (by decide) 0 (Ev.cast (Ev.pow .int .int c20) eO) (by decide) sO) (Ev.cast (Ev.mul .int (Ev.pow .int .int c19) m19) eP)
    · rw [List.length_range]
    · rw [← h2]; simp [encV, digs]
    · exact .of
    · rw [List.length_zip]; omega
    · intro q hq
      refine .p2 10 11 rfl scShifts.nd ?_
      rintro Y ⟨_, _, _, _, _, rfl⟩
      exact .add (.nm 10) (.nm 11)
    · exact .of
    · rw [List.length_zip, l1]; omega
    · intro q hq
      refine .p2 10 11 rfl scShifts.nd ?_
      rintro Y ⟨_, _, _, _, _, rfl⟩
      exact .add (.nm 10) (.nm 11)
end
end K2

namespace DL
open PySem PySem.Spec PyProof.Rows L2
section
variable {X : Cx} {ρ ρ' ρ1 ρ2 : List Den} {pos : Pos} {W : WX}
/-- a comprehension with a test, that changes nothing -/
theorem LcC.flt {α : Type} {elt tg iter : Expr} {ifs : List Expr} {scope : Scope} {vs : List Nat} {g : α → PyData} {ds : List PyData} (xs : List α) (o : Nat → Option PyData) (hi : EvI X ρ tg iter (xs.map g) ρ1) (nk : NoKn ρ1 vs) (hz : xs.length ≤ 1000000)
    (ht : ∀ i x, xs[i]? = some x → LcT X scope vs ρ1 tg elt ifs (g x) (o i) ρ1) (he : (List.range xs.length).filterMap o = ds) : LcC X ρ elt tg iter ifs scope vs ds ρ1 := by
  subst he
  have h := LcC.mk (elt := elt) (ifs := ifs) hi (fun _ => ρ1) .refl (fun _ => rfl) (fun _ => nk) o (by simpa using hz) (fun i d hd => by
    obtain ⟨y, hy, rfl⟩ := loopB hd
    exact ht i y hy)
  rw [List.length_map] at h
  exact h
theorem LcT.p1F {scope : Scope} {vs : List Nat} {ρa : List Den} {x : Str} {tp : Pos} {elt c : Expr} {d y : PyData} {k : Bool} (i : Nat) (hN : X.N.Nodup) (hk : ∀ Y, Blk X scope Y → EvT Y (ρa.set i (.d d)) c k (ρa.set i (.d d))) (he : ∀ Y, Blk X scope Y → Ev Y (ρa.set i (.d d)) elt y (ρa.set i (.d d)))
    (hi : i ∈ vs := by decide) (hNi : X.N[i]? = some x := by rfl) (hl : Loc scope x := by first | exact Or.inl rfl | exact Or.inr rfl) (hf : isFix ρa[i]? = false := by rfl) : LcT X scope vs ρa (.Name x tp) elt [c] d (if k then some y else none) ρa := by
  refine ⟨ρa.set i (.d d), [i], fun Y hY => ?_, by simpa using hi, by simp, ?_⟩
  · obtain ⟨_, _, _, _, _, rfl⟩ := hY
    exact .name i hf hN hNi (loc_rel hl) (fn_rel hl)
  · have ag := (Agr.set (d := .d d) (Agr.refl (ρ := ρa)) hi).2
    cases k with
    | true => exact ⟨fun Y hY => .one (hk Y hY), ρa.set i (.d d), he, ag⟩
    | false => exact ⟨fun Y hY => .one (hk Y hY), ag⟩
end
end DL
namespace K2
open PySem PySem.Spec PyProof.Rows L2 DL
section
variable {P : Program} {wo : World} {K : PySem.W.Frag} {mg : Str → Option Value} {base : Heap} {cB fB cM fM cD cT cP : Addr}
/-! ### _law_refusals -/
def slowM (w h d : Nat) : Mp := ⟨List.replicate h (List.replicate w 1), List.replicate h 0, d⟩
def lastM (o : Nat) (a : Int) (b : Nat) : Mp := ⟨[List.replicate o 2], [a], b⟩
theorem Wf.slow {w h d : Nat} (h1 : okLen w = true) (h2 : okLen h = true) : Wf (slowM w h d) w h := ⟨by simp [slowM], by simp [slowM], fun r hr => by
  rw [show r = List.replicate w 1 from (List.mem_replicate.mp hr).2]
  simp, h1, h2⟩
theorem Sz.slow {w h d : Nat} (hd : d ≤ 100) : Sz 10 (slowM w h d) := ⟨fun r hr x hx => by
  rw [show r = List.replicate w 1 from (List.mem_replicate.mp hr).2] at hx
  rw [show x = 1 from (List.mem_replicate.mp hx).2]
  decide, fun x hx => by
  rw [show x = 0 from (List.mem_replicate.mp hx).2]
  decide, hd⟩
theorem Wf.last {o b : Nat} {a : Int} (h1 : okLen o = true) : Wf (lastM o a b) o 1 := ⟨rfl, rfl, fun r hr => by
  simp only [lastM, List.mem_cons, List.not_mem_nil, or_false] at hr
  subst hr
  simp, h1, rfl⟩
theorem Sz.last {o b : Nat} {a : Int} (ha : a.natAbs < 2 ^ 10) (hb : b ≤ 100) : Sz 10 (lastM o a b) := ⟨fun r hr x hx => by
  simp only [lastM, List.mem_cons, List.not_mem_nil, or_false] at hr
  subst hr
  rw [show x = 2 from (List.mem_replicate.mp hx).2]
  decide, fun x hx => by
  simp only [lastM, List.mem_cons, List.not_mem_nil, or_false] at hx
  subst hx
  exact ha, hb⟩
/-- the pool through the three loops -/
def pl1 (p : Int) : Nat → Int
  | 0 => p
  | i + 1 => pl1 p i / 19 / 3
def lens (w : Nat) : List Nat := (List.range 5).filter (· ≠ w)
def pl2 (p : Int) (ls : List Nat) : Int := ls.foldl (fun p n => dv p 9 n) p
def refEnd (p : Int) (w : Nat) : Int := dv (pl2 (pl1 (p / 8) 3) (lens w)) 9 2
inductive RRefusals : List Den → Out → Prop
  | ok {p : Int} {m : Mp} {w h : Nat} : Wf m w h → Sz 946 m → RRefusals [.own true [.int p], .d (encM m), .d (encM m)] (.ret (.bool true) [.own true [.int (refEnd p w)], .d (encM m), .d (encM m)])
abbrev rfN : List Str := ["pool", "told", "due", "wide", "high", "slow", "plain", "other", "last", "fine", "length", "cell", "mapping", "k", "i"]
theorem scRefusals : FnScope rfN ["pool", "told", "due"] (defScope (top 31)) := ⟨rfl, rfl, rfl, by decide +kernel, rfl, by decide +kernel, by decide +kernel⟩
abbrev rfS (p : Int) (m : Mp) (w h d : Nat) (c : Den) (l : Den) : List Den := [.own true [.int p], .d (encM m), .d (encM m), .d (.int w), .d (.int h), .d (encM (slowM w h d)), .d (encM (slowM w h 0)), .un, .un, .un, l, c, .un, .un, .un]
theorem repT (n : Nat) (x : PyData) : (List.replicate ((n : Int)).toNat [x]).flatten = List.replicate n x := by
  rw [Int.toNat_natCast]
  simp
theorem encR_rep (n : Nat) (v : List Int) : PyData.tuple (List.replicate n (encV v)) = encR (List.replicate n v) := by simp [encR]
theorem encV_rep (n : Nat) (x : Int) : PyData.tuple (List.replicate n (.int x)) = encV (List.replicate n x) := by simp [encV]
def fineD (o h : Nat) : PyData := if o = h then sayN else sayM "dim"
theorem refused_fine {o h w b : Nat} {a : Int} (h1 : okLen w = true) (h2 : okLen h = true) (h3 : okLen o = true) (ha : a.natAbs < 2 ^ 10) (hb : b ≤ 100) :
    RRefused [.d (.int 1), .d (encM (slowM w h 0)), .d (encM (lastM o a b))] (.ret (fineD o h) [.d (.int 1), .d (encM (slowM w h 0)), .d (encM (lastM o a b))]) := by
  unfold fineD
  split
  · rename_i e
    subst e
    exact .fine (Wf.slow h1 h2) (Wf.last h3) rfl (Sz.slow (by decide)) (Sz.last ha hb) (by decide) (by decide)
  · rename_i e
    exact .dim rfl (Wf.slow h1 h2) (Wf.last h3) fun z => e z.symm
theorem fit_fine (o h : Nat) : Fits 3 1 (fineD o h) := by
  unfold fineD
  split
  · exact fitSN
  · exact fitSM (by decide +kernel) (by decide +kernel)
theorem fine_ix (o h : Nat) : atI [sayM "dim", sayN] (if decide ((o : Int) = (h : Int)) = true then 1 else 0) = some (fineD o h) := by
  unfold fineD
  by_cases e : o = h
  · subst e
    simp only [decide_true, if_true]
    rfl
  · have : ¬ ((o : Int) = (h : Int)) := by omega
    simp only [this, decide_false, e, if_false, Bool.false_eq_true]
    rfl
theorem lens_map (w : Nat) : (List.range (List.range 5).length).filterMap (fun (i : Nat) => if decide ((i : Int) ≠ (w : Int)) = true then some (PyData.int (i : Int)) else none) = (lens w).map fun (n : Nat) => .int (n : Int) := by
  rw [List.length_range]
  unfold lens
  generalize List.range 5 = l
  induction l with
  | nil => rfl
  | cons a l ih =>
    rw [List.filterMap_cons, List.filter_cons]
    by_cases e : a = w
    · subst e
      simp only [ne_eq, not_true_eq_false, decide_false, Bool.false_eq_true, if_false]
      exact ih
    · have e2 : ¬ ((a : Int) = (w : Int)) := by omega
      simp only [ne_eq, e, e2, not_false_eq_true, decide_true, if_true, List.map_cons]
      rw [← ih]
theorem lens_mem {w n : Nat} (h : n ∈ lens w) : n ≤ 4 ∧ n ≠ w := by
  unfold lens at h
  have := List.mem_filter.mp h
  have h1 := List.mem_range.mp this.1
  have h2 : n ≠ w := by simpa using this.2
  exact ⟨by omega, h2⟩
theorem ok_refusals (D : Def K mg "_law_refusals" (top 31) ["pool", "told", "due"]) (B : Bt mg) (CD : Cl P wo K mg base 1 "_law_draw" ["pool", "most"] RDraw) (CS : Cl P wo K mg base 1 "_law_same" ["told", "due"] RSame) (CX : Cl P wo K mg base 5 "_law_refused" ["mode", "one", "two"] RRefused) :
    Cl P wo K mg base 6 "_law_refusals" ["pool", "told", "due"] RRefusals := by
  refine .of (N := rfN) D scRefusals (by decide) (fun as o h => by cases h <;> exact ⟨rfl, rfl⟩) ?_
  rintro X W ⟨f, cdv, A, outer, s, H, E, rfl⟩ hr tk po as o h
  cases h with | @ok p m w h Wm Sm0 => ?_
  obtain ⟨r0, rs, e0, l0⟩ := Wm.head
  have x0 : atI (m.rows.map encV) 0 = some (encV r0) := by rw [e0]; exact atI_at (n := 0) rfl
  have hw := okLen_le Wm.w1
  have hh := okLen_le Wm.h1
  have s8 : Sm 8 := Sm.of (k := 10) (by decide)
  have s19 : Sm 19 := Sm.of (k := 10) (by decide)
  have s3 : Sm 3 := Sm.of (k := 10) (by decide)
  have s9 : Sm 9 := Sm.of (k := 10) (by decide)
  have p8 := Int.emod_nonneg p (show (8 : Int) ≠ 0 by decide)
  have p8' := Int.emod_lt_of_pos p (show (0 : Int) < 8 by decide)
  generalize hd : 1 + (p % 8).toNat = d
  have ed : (1 : Int) + p % 8 = (d : Int) := by omega
  have d0 : 0 < d := by omega
  have d9 : d ≤ 100 := by omega
  have eS : ∀ x : PyData, PyData.tuple [.tuple (List.replicate ((h : Int)).toNat [PyData.tuple (List.replicate ((w : Int)).toNat [PyData.int 1]).flatten]).flatten, .tuple (List.replicate ((h : Int)).toNat [PyData.int 0]).flatten, x] = .tuple [encR (List.replicate h (List.replicate w 1)), encV (List.replicate h 0), x] := fun x => by
    rw [repT, repT, repT, encV_rep, encR_rep, encV_rep]
  refine ⟨.ret (.bool true) _, rfl, Ex.cons (ES.st 3 scRefusals.nd (Ev.cast (d' := .int w) (Ev.len (k := false) rfl rfl B.len (.ixT (.ixT (.nm 2) .int at3_0) .int x0)) (by rw [List.length_map, l0]))) <|
    Ex.cons (ES.st 4 scRefusals.nd (Ev.cast (d' := .int h) (Ev.len (k := false) rfl rfl B.len (.ixT (.nm 2) .int at3_0)) (by rw [List.length_map, Wm.rl]))) <|
    Ex.cons (ES.st 5 scRefusals.nd (Ev.cast (d' := encM (slowM w h d)) (Ev.tu3 (Ev.repT (Ev.tu1 (Ev.repT (Ev.tu1 .int) (.nm 3) (by omega) (by omega) (by show 1 ≤ 1000; decide))) (.nm 4) (by omega) (by omega) (by show 1 ≤ 1000; decide)) (Ev.repT (Ev.tu1 .int) (.nm 4) (by omega) (by omega) (by show 1 ≤ 1000; decide)) (Ev.add .int (drw CD hr (by decide) 0 .int (by decide) s8))) ?_)) <|
    Ex.cons (ES.st 6 scRefusals.nd (Ev.cast (d' := encM (slowM w h 0)) (Ev.tu3 (Ev.repT (Ev.tu1 (Ev.repT (Ev.tu1 .int) (.nm 3) (by omega) (by omega) (by show 1 ≤ 1000; decide))) (.nm 4) (by omega) (by omega) (by show 1 ≤ 1000; decide)) (Ev.repT (Ev.tu1 .int) (.nm 4) (by omega) (by omega) (by show 1 ≤ 1000; decide)) .int) ?_)) <|
    Ex.cons (ES.loop1 7 [1, 2, 3] (fun i => rfS (pl1 (p / 8) i) m w h d .un .un) scRefusals.nd rfl po (EvI.cast (es := ([1, 2, 3] : List Nat).map fun (n : Nat) => PyData.int (n : Int)) (EvI.list (Ev.li3 .int .int .int)) rfl) ?_ ?_ rfl) <|
    Ex.cons (ES.loop1 10 (lens w) (fun i => rfS (pl2 (pl1 (p / 8) 3) ((lens w).take i)) m w h d .un .un) scRefusals.nd rfl po (EvI.list (EvO.ev (LcC.ev (own := [("k", 13)]) (LcC.flt (List.range 5) (fun (i : Nat) => if decide ((i : Int) ≠ (w : Int)) = true then some (PyData.int (i : Int)) else none) (EvI.rng rfl B.range .int (by decide)) ?_ ?_ ?_ (lens_map w)) rfl scRefusals.nd (blkOk_by rfl)))) ?_ ?_ rfl) <|
    Ex.cons (ES.loop1 10 [0, 4] (fun i => rfS (dv (pl2 (pl1 (p / 8) 3) (lens w)) 9 i) m w h d .un .un) scRefusals.nd rfl po (EvI.cast (es := ([0, 4] : List Nat).map fun (n : Nat) => PyData.int (n : Int)) (EvI.list (Ev.li2 .int .int)) rfl) ?_ ?_ rfl) <|
    Ex.one (ES.ret .bl)⟩
  · rw [ed, eS]
    rfl
  · rw [eS]
    rfl
  · exact .same (.same (.same (.same (.same (.same (.same (.same (.same (.same (.same (.same (.same (.same (.same .nil))))))))))))))
  · intro i x hx
    generalize hq : pl1 (p / 8) i = q
    have hxo : okLen x = true := by
      have := List.mem_of_getElem? hx
      simp only [List.mem_cons, List.not_mem_nil, or_false] at this
      rcases this with rfl | rfl | rfl <;> rfl
    have hx3 := okLen_le hxo
    have q19 := Int.emod_nonneg q (show (19 : Int) ≠ 0 by decide)
    have q19' := Int.emod_lt_of_pos q (show (0 : Int) < 19 by decide)
    have q3 := Int.emod_nonneg (q / 19) (show (3 : Int) ≠ 0 by decide)
    have q3' := Int.emod_lt_of_pos (q / 19) (show (0 : Int) < 3 by decide)
    have ha : (q % 19 - 9).natAbs < 2 ^ 10 := by omega
    have hb : (q / 19 % 3).toNat ≤ 100 := by omega
    refine ⟨_, Ex.cons (ES.st 8 scRefusals.nd (Ev.cast (d' := encM (lastM x (q % 19 - 9) (q / 19 % 3).toNat)) (Ev.tu3 (Ev.tu1 (Ev.repT (Ev.tu1 .int) (.nm 7) (by omega) (by omega) (by show 1 ≤ 1000; decide))) (Ev.tu1 (Ev.sub (drw CD hr (by decide) 0 .int (by decide) s19) .int)) (drw CD hr (by decide) 0 .int (by decide) s3)) ?_)) <|
      Ex.cons (ES.skip (EvT.not (EvT.val (Ev.cl CS hr (by decide) rfl (EvA.cons (Ev.cl CX hr (by decide) rfl (EvA.cons .int (EvA.cons (.nm 5) (EvA.cons (.nm 8) .nil))) (.hal d0) (.none rfl)) (EvA.cons (Ev.tu2 .str .str) .nil)) (same_ok (fitSM (by decide +kernel) (by decide +kernel))) (.none rfl)))) rfl) <|
      Ex.cons (ES.st 9 scRefusals.nd (Ev.ixL (Ev.li2 (Ev.tu2 .str .str) (Ev.tu2 .str (.neg .int))) (Ev.intB rfl rfl B.int (Ev.eqI (.nm 7) (.nm 4))) (fine_ix x h))) <|
      Ex.one (ES.skip (EvT.not (EvT.val (Ev.cl CS hr (by decide) rfl (EvA.cons (Ev.cl CX hr (by decide) rfl (EvA.cons .int (EvA.cons (.nm 6) (EvA.cons (.nm 8) .nil))) (refused_fine Wm.w1 Wm.h1 hxo ha hb) (.none rfl)) (EvA.cons (.nm 9) .nil)) (same_ok (fit_fine x h)) (.none rfl)))) rfl), ?_⟩
    · rw [repT, encV_rep]
      have : (((q / 19 % 3).toNat : Nat) : Int) = q / 19 % 3 := by omega
      unfold encM lastM
      simp only [this]
      rfl
    · show WkL _ (rfS (pl1 (p / 8) (i + 1)) m w h d .un .un)
      show WkL _ (rfS (pl1 (p / 8) i / 19 / 3) m w h d .un .un)
      rw [hq]
      exact .same (.same (.same (.same (.same (.same (.same (.un rfl (.un rfl (.un rfl (.same (.same (.same (.same (.same .nil))))))))))))))
  · exact .of
  · decide
  · intro i x hx
    obtain ⟨hi, rfl⟩ := range_get hx
    refine .p1F 13 scRefusals.nd ?_ ?_
    · rintro Y ⟨_, _, _, _, _, rfl⟩
      exact EvT.neI (.nm 13) (.nm 3)
    · rintro Y ⟨_, _, _, _, _, rfl⟩
      exact .nm 13
  · exact .same (.same (.same (.same (.same (.same (.same (.same (.same (.same (.same (.same (.same (.same (.same .nil))))))))))))))
  · intro i n hx
    have hn := lens_mem (List.mem_of_getElem? hx)
    generalize hq : pl2 (pl1 (p / 8) 3) ((lens w).take i) = q
    have hq1 : pl2 (pl1 (p / 8) 3) ((lens w).take (i + 1)) = dv q 9 n := by
      unfold pl2 at hq ⊢
      rw [take_more hx, List.foldl_append, hq]
      rfl
    generalize hc : (List.range n).map (fun i => dv q 9 i % 9) = c
    have lc : c.length = n := by rw [← hc]; simp
    refine ⟨_, Ex.cons (ES.st 11 scRefusals.nd (Ev.cast (d' := encV c) (Ev.tupO rfl rfl B.tuple (LcC.ev (own := [("i", 14)]) (LcC.go (ρ3 := rfS (dv q 9 n) m w h d .un (.d (.int n))) (List.range n) (fun i => .int (dv q 9 i % 9)) (fun i => rfS (dv q 9 i) m w h d .un (.d (.int n))) (EvI.rng rfl B.range (.nm 10) (by omega)) ?_ ?_ ?_ ?_) rfl scRefusals.nd (blkOk_by rfl))) ?_)) <|
      Ex.one (ES.loop1 12 [m, slowM w h d] (fun _ => rfS (dv q 9 n) m w h d (.d (encV c)) (.d (.int n))) scRefusals.nd rfl po (EvI.list (Ev.li2 (.nm 1) (.nm 5))) ?_ ?_ rfl), ?_⟩
    · exact .same (.same (.same (.same (.same (.same (.same (.same (.same (.same (.same (.same (.same (.same (.same .nil))))))))))))))
    · simp; omega
    · intro j y hy
      refine .p1S 14 scRefusals.nd ?_ (Agr.set (i := 14) (d := .d (.int y)) .refl (by decide))
      rintro Y ⟨_, _, _, _, _, rfl⟩
      exact drw CD hr (by decide) 0 .int (by decide) s9
    · rw [List.length_range]
    · rw [← hc]; simp [encV]
    · exact .same (.same (.same (.same (.same (.same (.same (.same (.same (.same (.same (.same (.same (.same (.same .nil))))))))))))))
    · intro j y hy
      have wy : Wf y w h := by
        have := List.mem_of_getElem? hy
        simp only [List.mem_cons, List.not_mem_nil, or_false] at this
        rcases this with rfl | rfl
        · exact Wm
        · exact Wf.slow Wm.w1 Wm.h1
      have eb : sayB c.length = sayB n := by rw [lc]
      refine ⟨_, Ex.one (ES.skip (EvT.not (EvT.val (Ev.cl CS hr (by decide) rfl (EvA.consC (Ev.cl CX hr (by decide) rfl (EvA.cons .int (EvA.cons (.nm 12) (EvA.cons (.nm 11) .nil))) (.app wy (by rw [lc]; exact hn.2)) (.none rfl)) eb (EvA.cons (Ev.tu2 .str (.nm 10)) .nil)) (same_ok (fitSB (by omega))) (.none rfl)))) rfl), ?_⟩
      exact .same (.same (.same (.same (.same (.same (.same (.same (.same (.same (.same (.same (.un rfl (.same (.same .nil))))))))))))))
    · show WkL _ (rfS (pl2 (pl1 (p / 8) 3) ((lens w).take (i + 1))) m w h d .un .un)
      rw [hq1]
      exact .same (.same (.same (.same (.same (.same (.same (.same (.same (.same (.un rfl (.un rfl (.same (.same (.same .nil))))))))))))))
  · rw [List.take_length]
    exact .same (.same (.same (.same (.same (.same (.same (.same (.same (.same (.same (.same (.same (.same (.same .nil))))))))))))))
  · intro i n hx
    have hn : n = 0 ∨ n = 4 := by
      have := List.mem_of_getElem? hx
      simpa using this
    generalize hq : dv (pl2 (pl1 (p / 8) 3) (lens w)) 9 i = q
    have hk : okLen (List.replicate n (PyData.int (q % 9))).length = false := by
      rw [List.length_replicate]
      rcases hn with rfl | rfl <;> rfl
    have eb : sayB (List.replicate n (PyData.int (q % 9))).length = sayB n := by rw [List.length_replicate]
    refine ⟨_, Ex.one (ES.skip (EvT.not (EvT.val (Ev.cl CS hr (by decide) rfl (EvA.consC (Ev.cl CX hr (by decide) rfl (EvA.cons .int (EvA.consC (Ev.repT (Ev.tu1 (drw CD hr (by decide) 0 .int (by decide) s9)) (.nm 10) (by omega) (by omega) (by show 1 ≤ 1000; decide)) (congrArg PyData.tuple (repT n (.int (q % 9)))) (EvA.cons .int .nil))) (.shf hk) (.none rfl)) eb (EvA.cons (Ev.tu2 .str (.nm 10)) .nil)) (same_ok (fitSB (by omega))) (.none rfl)))) rfl), ?_⟩
    show WkL _ (rfS (dv (pl2 (pl1 (p / 8) 3) (lens w)) 9 i / 9) m w h d .un .un)
    rw [hq]
    exact .same (.same (.same (.same (.same (.same (.same (.same (.same (.same (.un rfl (.same (.same (.same (.same .nil))))))))))))))
end
end K2

namespace K2
/-! ### the plain law: what is drawn fits -/
theorem rows_len {p : Int} {wide high : Nat} : ((List.range high).map fun i => digs (rowP p wide i) 19 wide 9).length = high := by simp
theorem lawMap_wf {ns : List Int} {k a b s : Nat} (ha : okLen a = true) (hb : okLen b = true) : Wf (lawMap ns k a b s) a b :=
  ⟨by simp [lawMap], by simp [lawMap, digs], fun r hr => by
    simp only [lawMap, List.mem_map] at hr
    obtain ⟨i, _, rfl⟩ := hr
    exact digs_len, ha, hb⟩
theorem lawMap_sz {ns : List Int} {k a b s : Nat} (hs : s ≤ 1) : Sz 70 (lawMap ns k a b s) := by
  refine ⟨fun r hr x hx => ?_, fun x hx => ?_, ?_⟩
  · simp only [lawMap, List.mem_map] at hr
    obtain ⟨i, _, rfl⟩ := hr
    have := digs_b (show (0 : Int) < 19 by decide) hx
    have h70 : 100 < 2 ^ 70 := by decide
    omega
  · simp only [lawMap] at hx
    have hb := reach_b (rowP (number ns k) a b % 3)
    have := digs_b (show (0 : Int) < 2 * reachOf (rowP (number ns k) a b % 3) + 1 by omega) hx
    have h70 : 100000000000000000000 < 2 ^ 70 := by decide
    have h20 : (10 : Int) ^ 20 = 100000000000000000000 := by decide
    omega
  · simp only [lawMap]
    generalize dv _ _ _ = q
    have h1 := Int.emod_nonneg q (show (9 : Int) ≠ 0 by decide)
    have h2 := Int.emod_lt_of_pos q (show (0 : Int) < 9 by decide)
    have : s * (q % 9).toNat ≤ 1 * (q % 9).toNat := Nat.mul_le_mul_right _ hs
    omega
theorem lawMap_hv {ns : List Int} {k a b : Nat} : (lawMap ns k a b 0).hv = 0 := by simp [lawMap]
theorem Ch.snoc {A : List Mp} {m : Mp} {w h h' : Nat} (a : Ch w A h) (b : Wf m h h') : Ch w (A ++ [m]) h' := a.append (.cons b .nil)
theorem ch_range {f : Nat → Mp} {D : Nat → Nat} : ∀ n : Nat, (∀ k, k < n → Wf (f k) (D k) (D (k + 1))) → Ch (D 0) ((List.range n).map f) (D n)
  | 0, _ => .nil
  | n + 1, h => by
    rw [List.range_succ, List.map_append]
    exact (ch_range n fun k hk => h k (by omega)).snoc (h n (by omega))
/-- a drawn chain -/
theorem chain_of {f : Nat → Mp} {D : Nat → Nat} {n : Nat} (h0 : 0 < n) (hn : n ≤ 10) (hw : ∀ k, k < n → Wf (f k) (D k) (D (k + 1))) (hs : ∀ k, k < n → Sz 70 (f k)) (hv : ∀ k, k + 1 < n → (f k).hv = 0) : Chain (D 0) ((List.range n).map f) (D n) := by
  refine ⟨ch_range n hw, fun e => ?_, fun m hm => ?_, fun i m hm hl => ?_, by simp; omega⟩
  · have := congrArg List.length e
    simp at this
    omega
  · obtain ⟨k, hk, rfl⟩ := List.mem_map.mp hm
    exact hs k (List.mem_range.mp hk)
  · have hi : i < n := by simp at hl; omega
    rw [List.getElem?_map, List.getElem?_range hi] at hm
    cases hm
    exact hv i (by simpa using hl)
theorem prodR_insert : ∀ {A B : List Mp} {v : List Int} {w h : Nat}, Ch w A v.length → Ch v.length B h → B ≠ [] → okLen v.length = true → prodR (A ++ (shiftM v :: shiftM (v.map fun x => -x) :: B)) = prodR (A ++ B)
  | [], B, v, w, h, _, cb, hB, hv => by
    have hv2 : okLen (v.map fun x => -x).length = true := by rw [List.length_map]; exact hv
    have w1 := Wf.shift hv
    have w2 : Wf (shiftM (v.map fun x => -x)) v.length v.length := by
      have := Wf.shift hv2
      rwa [List.length_map] at this
    have wB := prodR_wf cb hB
    rw [List.nil_append, List.nil_append, prodR_cons (by simp), prodR_cons hB, ← afterM_assoc w1 w2 wB, back_forth hv, shift_zero_l wB]
  | a :: A, B, v, w, h, .cons wa ca, cb, hB, hv => by
    rw [List.cons_append, List.cons_append, prodR_cons (by simp), prodR_cons (by simp [hB]), prodR_insert ca cb hB hv]
theorem chain_insert {ms : List Mp} {w h at_ : Nat} {v : List Int} (C : Chain w ms h) (hl : ms.length ≤ 10) (ha : at_ < ms.length) (hv : okLen v.length = true) (hs : Szc 70 v) (hw : ∀ m, ms[at_]? = some m → ∃ h', Wf m v.length h') :
    Chain w (ms.take at_ ++ (shiftM v :: shiftM (v.map fun x => -x) :: ms.drop at_)) h ∧ prodL (ms.take at_ ++ (shiftM v :: shiftM (v.map fun x => -x) :: ms.drop at_)) = prodL ms := by
  have hv2 : okLen (v.map fun x => -x).length = true := by rw [List.length_map]; exact hv
  have w1 := Wf.shift hv
  have w2 : Wf (shiftM (v.map fun x => -x)) v.length v.length := by
    have := Wf.shift hv2
    rwa [List.length_map] at this
  have hs2 : Szc 70 (v.map fun x => -x) := fun x hx => by
    obtain ⟨y, hy, rfl⟩ := List.mem_map.mp hx
    rw [Int.natAbs_neg]
    exact hs y hy
  have e : ms.take at_ ++ ms.drop at_ = ms := List.take_append_drop _ _
  have c0 := C.ch
  rw [← e] at c0
  obtain ⟨h1, ca, cb⟩ := c0.split
  have ed : ms.drop at_ = ms[at_] :: ms.drop (at_ + 1) := List.drop_eq_getElem_cons ha
  have hne : ms.drop at_ ≠ [] := fun z => by rw [ed] at z; cases z
  have eh : h1 = v.length := by
    obtain ⟨h', wm⟩ := hw _ (List.getElem?_eq_getElem ha)
    rw [ed] at cb
    cases cb with
    | cons wm2 _ => exact wm2.wd.symm.trans wm.wd
  subst eh
  have cc := ca.append (Ch.cons w1 (Ch.cons w2 cb))
  have ln : (ms.take at_).length = at_ := by rw [List.length_take]; omega
  refine ⟨⟨cc, by simp, fun m hm => ?_, fun i m hm hi => ?_, ?_⟩, ?_⟩
  · rcases List.mem_append.mp hm with q | q
    · exact C.sz m (List.mem_of_mem_take q)
    · rcases List.mem_cons.mp q with rfl | q
      · exact Sz.shift hs (by decide)
      · rcases List.mem_cons.mp q with rfl | q
        · exact Sz.shift hs2 (by decide)
        · exact C.sz m (List.mem_of_mem_drop q)
  · rw [List.length_append, List.length_cons, List.length_cons, ln, List.length_drop] at hi
    rcases Nat.lt_or_ge i at_ with q | q
    · rw [List.getElem?_append_left (by omega), List.getElem?_take_of_lt q] at hm
      exact C.fl i m hm (by omega)
    · rw [List.getElem?_append_right (by omega), ln] at hm
      rcases Nat.lt_or_ge i (at_ + 2) with q2 | q2
      · rcases Nat.lt_or_ge i (at_ + 1) with q3 | q3
        · have : i - at_ = 0 := by omega
          rw [this] at hm
          cases hm
          rfl
        · have : i - at_ = 1 := by omega
          rw [this] at hm
          cases hm
          rfl
      · obtain ⟨j, rfl⟩ : ∃ j, i = at_ + 2 + j := ⟨i - (at_ + 2), by omega⟩
        have : at_ + 2 + j - at_ = j + 2 := by omega
        rw [this] at hm
        have hm2 : (ms.drop at_)[j]? = some m := hm
        rw [List.getElem?_drop] at hm2
        exact C.fl _ m hm2 (by omega)
  · rw [List.length_append, List.length_cons, List.length_cons, ln, List.length_drop]
    omega
  · rw [prod_LR cc, prod_LR C.ch, prodR_insert ca cb hne hv, e]
theorem cells_ok {ns : List Int} {k dim : Nat} : ∀ c ∈ cellsOf ns k dim, c.length = dim ∧ Szc 70 c := by
  intro c hc
  have h70 : 100000000000000000002 < 2 ^ 70 := by decide
  have h20 : (10 : Int) ^ 20 = 100000000000000000000 := by decide
  simp only [cellsOf, List.mem_cons, List.not_mem_nil, or_false] at hc
  rcases hc with rfl | rfl | rfl | rfl
  · refine ⟨digs_len, fun x hx => ?_⟩
    have := digs_b (show (0 : Int) < 2 * 10 ^ 20 + 1 by decide) hx
    omega
  · refine ⟨digs_len, fun x hx => ?_⟩
    have := digs_b (show (0 : Int) < 8 by decide) hx
    omega
  · refine ⟨by simp, fun x hx => ?_⟩
    rw [(List.mem_replicate.mp hx).2]
    decide
  · refine ⟨by simp, fun x hx => ?_⟩
    rw [(List.mem_replicate.mp hx).2]
    decide
end K2

namespace DL
open PySem PySem.Spec PyProof.Rows L2
section
variable {X : Cx} {ρ ρ' ρ1 ρ2 : List Den} {pos : Pos} {W : WX}
theorem EvO.cast {e : Expr} {ds es : List PyData} (h : EvO X ρ e ds ρ') (q : ds = es) : EvO X ρ e es ρ' := q ▸ h
theorem LcC.cast {elt tg iter : Expr} {ifs : List Expr} {scope : Scope} {vs : List Nat} {ds es : List PyData} (h : LcC X ρ elt tg iter ifs scope vs ds ρ') (q : ds = es) : LcC X ρ elt tg iter ifs scope vs es ρ' := q ▸ h
theorem cut_top (xs : List PyData) (n : Nat) : cutD xs none (some (n : Int)) = xs.take n := by
  unfold cutD
  rw [HT.sIx_nat, HT.sIx_none, List.drop_zero, Nat.sub_zero]
  rcases Nat.le_total n xs.length with h | h
  · rw [Nat.min_eq_left h]
  · rw [Nat.min_eq_right h, List.take_length, List.take_of_length_le h]
theorem cut_bot (xs : List PyData) (n : Nat) : cutD xs (some (n : Int)) none = xs.drop n := by
  unfold cutD
  rw [HT.sIx_nat, HT.sIx_none]
  rcases Nat.le_total n xs.length with h | h
  · rw [Nat.min_eq_left h]
    exact List.take_of_length_le (by simp)
  · rw [Nat.min_eq_right h, List.drop_length, List.drop_eq_nil_of_le h]
    simp
end
end DL
namespace K2
open PySem PySem.Spec PyProof.Rows L2 DL
section
variable {P : Program} {wo : World} {K : PySem.W.Frag} {mg : Str → Option Value} {base : Heap} {cB fB cM fM cD cT cP : Addr}
/-! ### law -/
inductive RLaw : List Den → Out → Prop
  | ok {ns : List Int} : ns.length ≤ 63 → RLaw [.d (.list (ns.map .int))] (.ret (.bool true) [.d (.list (ns.map .int))])
abbrev lawN : List Str := ["script", "pool", "count", "dims", "more", "slow", "at", "start", "others", "last", "chain", "second", "due", "cells", "vector", "back", "long", "told", "k", "i", "x"]
theorem scLaw : FnScope lawN ["script"] (defScope (top 32)) := ⟨rfl, rfl, rfl, by decide +kernel, rfl, by decide +kernel, by decide +kernel⟩
def natD (n : Nat) : PyData := .int (n : Int)
abbrev lawS0 (ns : List Int) (p : Int) (c : Nat) (di : Den) : List Den := [.d (.list (ns.map .int)), .own false [.int p], .d (natD c), di, .un, .un, .un, .un, .un, .un, .un, .un, .un, .un, .un, .un, .un, .un, .un, .un, .un]
abbrev lawS1 (ns : List Int) (p : Int) (c mo sl at_ st : Nat) (dl : List Nat) (o l ch se du ce ve ba lo to : Den) : List Den := [.d (.list (ns.map .int)), .own false [.int p], .d (natD c), .d (.list (dl.map natD)), .d (natD mo), .d (natD sl), .d (natD at_), .d (natD st), o, l, ch, se, du, ce, ve, ba, lo, to, .un, .un, .un]
theorem draw_n {p m : Int} {n : Nat} (hm : 0 < m) (e : n = (p % m).toNat) : PyData.int (p % m) = natD n ∧ (n : Int) < m := by
  have h1 := Int.emod_nonneg p (Int.ne_of_gt hm)
  have h2 := Int.emod_lt_of_pos p hm
  have : (n : Int) = p % m := by omega
  exact ⟨by unfold natD; rw [this], by omega⟩
theorem nd_at {l : List Nat} {k : Nat} (h : k < l.length) : atI (l.map natD) (k : Int) = some (natD (l.getD k 0)) := by
  refine atI_at ?_
  rw [List.getElem?_map, List.getElem?_eq_getElem h]
  simp [List.getD_eq_getElem?_getD, List.getElem?_eq_getElem h]
theorem nd_at1 {l : List Nat} {k : Nat} (h : k + 1 < l.length) : atI (l.map natD) ((k : Int) + 1) = some (natD (l.getD (k + 1) 0)) := nd_at h
theorem tkk (a k : Nat) : PyData.int ((a : Int) + (k : Int)) = .int ((a + k : Nat) : Int) := by rw [Int.natCast_add]
theorem flagD (k c : Nat) : (if decide ((k : Int) = ((c : Nat) : Int)) = true then (1 : Int) else 0) = (((if k = c then 1 else 0 : Nat)) : Int) := by
  by_cases e : k = c
  · subst e; simp
  · have : ¬ ((k : Int) = (c : Int)) := by omega
    simp [e, this]
theorem ok_law (D : Def K mg "law" (top 32) ["script"]) (B : Bt mg) (CN : Cl P wo K mg base 1 "_law_number" ["script", "k"] RNumber) (CD : Cl P wo K mg base 1 "_law_draw" ["pool", "most"] RDraw) (CS : Cl P wo K mg base 1 "_law_same" ["told", "due"] RSame)
    (CMp : Cl P wo K mg base 2 "_law_map" ["script", "k", "wide", "high", "slow"] RMap) (CF : Cl P wo K mg base 2 "_law_folded" ["chain"] RFold) (CC : Cl P wo K mg base 2 "_law_cells" ["script", "k", "dim"] RCells) (CQ : Cl P wo K mg base 5 "_law_asked" ["chain", "due", "cells"] RAsked)
    (CH : Cl P wo K mg base 3 "shift_map" ["vector"] (RShift cB)) (CL : Cl P wo K mg base 3 "_law_left" ["chain"] RFold) (CJ : Cl P wo K mg base 6 "_law_joined" ["told", "due", "chain"] RJoined) (CI : Cl P wo K mg base 6 "_law_shifts" ["pool", "told", "due"] RShifts) (CR : Cl P wo K mg base 6 "_law_refusals" ["pool", "told", "due"] RRefusals) :
    Cl P wo K mg base 7 "law" ["script"] RLaw := by
  refine .of (N := lawN) D scLaw (by decide) (fun as o h => by cases h <;> exact ⟨rfl, rfl⟩) ?_
  rintro X W ⟨f, cdv, A, outer, s, H, E, rfl⟩ hr tk po as o h
  cases h with | @ok ns hn => ?_
  have s5 : Sm 5 := Sm.of (k := 10) (by decide)
  have s3 : Sm 3 := Sm.of (k := 10) (by decide)
  have s2 : Sm 2 := Sm.of (k := 10) (by decide)
  generalize hp0 : number ns 0 = p0
  generalize hc : 2 + (p0 % 5).toNat = c
  have ec : PyData.int (2 + p0 % 5) = natD c ∧ 2 ≤ c ∧ c ≤ 6 := by
    have h1 := Int.emod_nonneg p0 (show (5 : Int) ≠ 0 by decide)
    have h2 := Int.emod_lt_of_pos p0 (show (0 : Int) < 5 by decide)
    refine ⟨?_, by omega, by omega⟩
    unfold natD
    congr 1
    omega
  generalize hp1 : p0 / 5 = p1
  -- a drawn dimension
  have dim : ∀ q : Int, PyData.int (1 + q % 3) = natD (1 + (q % 3).toNat) ∧ okLen (1 + (q % 3).toNat) = true := fun q => by
    have h1 := Int.emod_nonneg q (show (3 : Int) ≠ 0 by decide)
    have h2 := Int.emod_lt_of_pos q (show (0 : Int) < 3 by decide)
    refine ⟨?_, ?_⟩
    · unfold natD
      congr 1
      omega
    · unfold okLen
      simp only [Bool.and_eq_true, decide_eq_true_eq]
      omega
  generalize hdl : (List.range (c + 1)).map (fun i => 1 + (dv p1 3 i % 3).toNat) = dl
  have ld : dl.length = c + 1 := by rw [← hdl]; simp
  have kd : ∀ k, k ≤ c → okLen (dl.getD k 0) = true := fun k hk => by
    rw [← hdl]
    simp only [List.getD_eq_getElem?_getD, List.getElem?_map, List.getElem?_range (show k < c + 1 by omega), Option.map_some, Option.getD_some]
    exact (dim _).2
  generalize hp2 : dv p1 3 (c + 1) = p2
  generalize hmo : 1 + (p2 % 3).toNat = mo
  have emo : PyData.int (1 + p2 % 3) = natD mo := by rw [← hmo]; exact (dim p2).1
  have kmo := okLen_le (by rw [← hmo]; exact (dim p2).2 : okLen mo = true)
  generalize hsl : ((p2 / 3) % 2).toNat = sl
  have esl := draw_n (show (0 : Int) < 2 by decide) hsl.symm
  have c0 : (0 : Int) < (c : Int) := by omega
  generalize hat : (((p2 / 3) / 2) % (c : Int)).toNat = at_
  have eat := draw_n c0 hat.symm
  have sc : Sm (c : Int) := sm_of (e := 10) (by omega) (by have := ec.2.2; omega) (by decide)
  generalize hst : (if ((((p2 / 3) / 2) / (c : Int)) / 3) % 2 = 0 then dl.getD c 0 else 1 + ((((p2 / 3) / 2) / (c : Int)) % 3).toNat) = st
  have kst : okLen st = true := by
    rw [← hst]
    split
    · exact kd c (Nat.le_refl _)
    · exact (dim (((p2 / 3) / 2) / (c : Int))).2
  have i63 : cutD (ns.map .int) none (some 63) = ns.map .int := by
    have := cut_top (ns.map .int) 63
    rw [List.take_of_length_le (by simpa using hn)] at this
    exact this
  have estx : atI [natD (dl.getD c 0), PyData.int (1 + (((p2 / 3) / 2) / (c : Int)) % 3)] (((((p2 / 3) / 2) / (c : Int)) / 3) % 2) = some (natD st) := by
    have h1 := Int.emod_nonneg ((((p2 / 3) / 2) / (c : Int)) / 3) (show (2 : Int) ≠ 0 by decide)
    have h2 := Int.emod_lt_of_pos ((((p2 / 3) / 2) / (c : Int)) / 3) (show (0 : Int) < 2 by decide)
    rw [← hst, (dim (((p2 / 3) / 2) / (c : Int))).1]
    have : ((((p2 / 3) / 2) / (c : Int)) / 3) % 2 = 0 ∨ ((((p2 / 3) / 2) / (c : Int)) / 3) % 2 = 1 := by omega
    rcases this with e | e
    · rw [if_pos e, e]; rfl
    · rw [if_neg (by omega), e]; rfl
  have dlast : atI (dl.map natD) (-1) = some (natD (dl.getD c 0)) := by
    have hne : dl ≠ [] := fun e => by rw [e] at ld; simp at ld
    rw [← List.dropLast_concat_getLast hne, List.map_append]
    refine atI_last.trans ?_
    rw [List.dropLast_concat_getLast hne, List.getLast_eq_getElem]
    simp only [ld, List.getD_eq_getElem?_getD, Nat.add_sub_cancel]
    rw [List.getElem?_eq_getElem (by omega)]
    rfl
  generalize hp7 : ((((p2 / 3) / 2) / (c : Int)) / 3) / 2 = p7
  generalize hol : st :: (List.range mo).map (fun i => 1 + (dv p7 3 i % 3).toNat) = ol
  have lo : ol.length = mo + 1 := by rw [← hol]; simp
  have ko : ∀ k, k ≤ mo → okLen (ol.getD k 0) = true := fun k hk => by
    rw [← hol]
    cases k with
    | zero => exact kst
    | succ k =>
      simp only [List.getD_eq_getElem?_getD, List.getElem?_cons_succ, List.getElem?_map, List.getElem?_range (show k < mo by omega), Option.map_some, Option.getD_some]
      exact (dim _).2
  generalize hp8 : dv p7 3 mo = p8
  have sl1 : sl ≤ 1 := by have := esl.2; omega
  have fl1 : ∀ k j : Nat, sl * (if k = j then 1 else 0) ≤ 1 := fun k j => by split <;> omega
  have gl1 : ∀ k j : Nat, (if k = j then 1 else 0 : Nat) ≤ 1 := fun k j => by split <;> omega
  have cc := ec.2
  -- the chains
  let F : Nat → Mp := fun k => lawMap ns (1 + k) (dl.getD k 0) (dl.getD (k + 1) 0) (sl * (if k = c - 1 then 1 else 0))
  let Gm : Nat → Mp := fun k => lawMap ns (8 + k) (ol.getD k 0) (ol.getD (k + 1) 0) (if k = mo - 1 then 1 else 0)
  have C1 : Chain (dl.getD 0 0) ((List.range c).map F) (dl.getD c 0) := chain_of (D := fun k => dl.getD k 0) (by omega) (by omega) (fun k hk => lawMap_wf (kd k (by omega)) (kd (k + 1) (by omega))) (fun k hk => lawMap_sz (fl1 _ _)) (fun k hk => by
    show (lawMap ns (1 + k) (dl.getD k 0) (dl.getD (k + 1) 0) (sl * (if k = c - 1 then 1 else 0))).hv = 0
    rw [if_neg (by omega), Nat.mul_zero]
    exact lawMap_hv)
  have C2 : Chain (ol.getD 0 0) ((List.range mo).map Gm) (ol.getD mo 0) := chain_of (D := fun k => ol.getD k 0) (by omega) (by omega) (fun k hk => lawMap_wf (ko k (by omega)) (ko (k + 1) (by omega))) (fun k hk => lawMap_sz (gl1 _ _)) (fun k hk => by
    show (lawMap ns (8 + k) (ol.getD k 0) (ol.getD (k + 1) 0) (if k = mo - 1 then 1 else 0)).hv = 0
    rw [if_neg (by omega)]
    exact lawMap_hv)
  have lF : ((List.range c).map F).length = c := by simp
  generalize hms : (List.range c).map F = ms at C1 lF
  have msAt : ∀ m, ms[at_]? = some m → ∃ h', Wf m (dl.getD at_ 0) h' := fun m hm => by
    have ha : at_ < c := by have := eat.2; omega
    rw [← hms, List.getElem?_map, List.getElem?_range ha] at hm
    cases hm
    exact ⟨_, lawMap_wf (kd at_ (by omega)) (kd (at_ + 1) (by omega))⟩
  have ha : at_ < c := by have := eat.2; omega
  have kda := okLen_le (kd at_ (by omega))
  have M0 : (0 : Int) < 2 * 10 ^ 20 + 1 := by decide
  have sM : Sm (2 * 10 ^ 20 + 1) := Sm.of (k := 100) (by decide)
  generalize hM : (2 : Int) * 10 ^ 20 + 1 = M at M0 sM
  have eM : PyData.int ((2 : Int) * 10 ^ ((20 : Int)).toNat + 1) = .int M := by rw [← hM]; rfl
  have c20 : CPow 10 20 := by unfold CPow; omega
  have m20 : CMulW 2 ((10 : Int) ^ ((20 : Int)).toNat) := by unfold CMulW; decide +kernel
  generalize hv : digs p8 M (dl.getD at_ 0) (10 ^ 20) = v
  have lv : v.length = dl.getD at_ 0 := by rw [← hv]; exact digs_len
  have sv : Szc 70 v := fun x hx => by
    rw [← hv] at hx
    have h1 := digs_b M0 hx
    have h70 : 100000000000000000002 < 2 ^ 70 := by decide
    have h20 : (10 : Int) ^ 20 = 100000000000000000000 := by decide
    rw [h20] at h1 hM
    omega
  have kv : okLen v.length = true := by rw [lv]; exact kd at_ (by omega)
  have kv2 : okLen (v.map fun x => -x).length = true := by rw [List.length_map]; exact kv
  have CI2 := chain_insert (at_ := at_) C1 (by omega) (by omega) kv sv (fun m hm => by rw [lv]; exact msAt m hm)
  generalize hlong : ms.take at_ ++ (shiftM v :: shiftM (v.map fun x => -x) :: ms.drop at_) = long at CI2
  have pw := C1.prod
  have sp : Sz 946 (prodL ms) := pw.2
  have fp := fitM pw.1 sp (by decide)
  have elong : (ms.map encM).take at_ ++ [encM (shiftM v), encM (shiftM (v.map fun x => -x))] ++ (ms.map encM).drop at_ = long.map encM := by
    rw [← hlong]
    simp
  have cutA : cutD (ms.map encM) none (some (at_ : Int)) = (ms.map encM).take at_ := cut_top _ _
  have cutB : cutD (ms.map encM) (some (at_ : Int)) none = (ms.map encM).drop at_ := cut_bot _ _
  refine ⟨.ret (.bool true) _, rfl, Ex.cons (ES.stF 0 scLaw.nd (EvO.listOf (k := true) rfl rfl B.list (Ev.cast (d' := .list (ns.map .int)) (EvO.ev (EvO.slice (.nm 0) .none (.some .int))) (by rw [i63])))) <|
    Ex.cons (ES.stO 1 scLaw.nd (EvO.li1 (Ev.cast (d' := .int p0) (Ev.cl CN hr (by decide) rfl (EvA.cons (.nm 0) (EvA.cons .int .nil)) (RNumber.ok (k := 0) hn (by decide)) (.none rfl)) (by rw [hp0])))) <|
    Ex.cons (ES.st 2 scLaw.nd (Ev.cast (d' := natD c) (Ev.add .int (drw CD hr (by decide) 1 .int (by decide) s5)) ec.1)) <|
    Ex.cons (ES.stF 3 scLaw.nd (EvO.cast (es := dl.map natD) (LcC.ev (own := [("k", 18)]) (LcC.go (ρ3 := lawS0 ns p2 c .un) (List.range (c + 1)) (fun i => .int (1 + dv p1 3 i % 3)) (fun i => lawS0 ns (dv p1 3 i) c .un) (EvI.rng (n := c + 1) rfl B.range (Ev.cast (Ev.add (.nm 2) .int) rfl) ?_) ?_ ?_ ?_ ?_) rfl scLaw.nd (blkOk_by rfl)) ?_)) <|
    Ex.cons (ES.st 4 scLaw.nd (Ev.cast (d' := natD mo) (Ev.add .int (drw CD hr (by decide) 1 .int (by decide) s3)) emo)) <|
    Ex.cons (ES.st 5 scLaw.nd (Ev.cast (d' := natD sl) (drw CD hr (by decide) 1 .int (by decide) s2) ?_)) <|
    Ex.cons (ES.st 6 scLaw.nd (Ev.cast (d' := natD at_) (drw CD hr (by decide) 1 (.nm 2) c0 sc) ?_)) <|
    Ex.cons (ES.st 7 scLaw.nd (Ev.ixL (Ev.li2 (Ev.ixL (.nm 3) (.neg .int) dlast) (Ev.add .int (drw CD hr (by decide) 1 .int (by decide) s3))) (drw CD hr (by decide) 1 .int (by decide) s2) estx)) <|
    Ex.weak (.of (ρ' := lawS1 ns p7 c mo sl at_ st dl .un .un .un .un .un .un .un .un .un .un) ?_) <|
    Ex.cons (ES.stF 8 scLaw.nd (EvO.cast (es := ol.map natD) (EvO.cat (EvO.ev (EvO.li1 (.nm 7))) (EvO.ev (LcC.ev (own := [("k", 18)]) (LcC.go (ρ3 := lawS1 ns p8 c mo sl at_ st dl .un .un .un .un .un .un .un .un .un .un) (List.range mo) (fun i => .int (1 + dv p7 3 i % 3)) (fun i => lawS1 ns (dv p7 3 i) c mo sl at_ st dl .un .un .un .un .un .un .un .un .un .un) (EvI.rng rfl B.range (.nm 4) ?_) ?_ ?_ ?_ ?_) rfl scLaw.nd (blkOk_by rfl))) ?_) ?_)) <|
    Ex.cons (ES.st 9 scLaw.nd (Ev.cast (d' := natD (c - 1)) (Ev.sub (.nm 2) .int) ?_)) <|
    Ex.cons (LcC.st [("k", 18)] 10 (LcC.cast (es := ms.map encM) (LcC.map (List.range c) (fun k => encM (F k)) (EvI.rng rfl B.range (.nm 2) ?_) ?_ ?_ ?_) ?_) rfl scLaw.nd (blkOk_by rfl)) <|
    Ex.cons (LcC.st [("k", 18)] 11 (LcC.cast (es := ((List.range mo).map Gm).map encM) (LcC.map (List.range mo) (fun k => encM (Gm k)) (EvI.rng rfl B.range (.nm 4) ?_) ?_ ?_ ?_) ?_) rfl scLaw.nd (blkOk_by rfl)) <|
    Ex.cons (ES.st 12 scLaw.nd (Ev.cl CF hr (by decide) rfl (EvA.cons (.nm 10) .nil) (.ok C1) (.none rfl))) <|
    Ex.cons (ES.st 13 scLaw.nd (Ev.cl CC hr (by decide) rfl (EvA.cons (.nm 0) (EvA.cons .int (EvA.cons (Ev.ixL (.nm 3) .int (nd_at (k := 0) ?_)) .nil))) (RCells.ok (k := 12) hn (by decide) (kd 0 (by omega))) (.none rfl))) <|
    Ex.cons (ES.skip (EvT.not (EvT.val (Ev.cl CQ hr (by decide) rfl (EvA.cons (.nm 10) (EvA.cons (.nm 12) (EvA.cons (.nm 13) .nil))) (.ok C1 cells_ok) (.none rfl)))) rfl) <|
    Ex.cons (ES.st 14 scLaw.nd (Ev.cast (d' := encV v) (Ev.tupO rfl rfl B.tuple (LcC.ev (own := [("i", 19)]) (LcC.go (ρ3 := lawS1 ns (dv p8 M (dl.getD at_ 0)) c mo sl at_ st dl (.d (.list (ol.map natD))) (.d (natD (c - 1))) (.d (encL ms)) (.d (encL ((List.range mo).map Gm))) (.d (encM (prodL ms))) (.d (.list ((cellsOf ns 12 (dl.getD 0 0)).map encV))) .un .un .un .un) (List.range (dl.getD at_ 0)) (fun i => .int (dv p8 M i % M - 10 ^ 20))
      (fun i => lawS1 ns (dv p8 M i) c mo sl at_ st dl (.d (.list (ol.map natD))) (.d (natD (c - 1))) (.d (encL ms)) (.d (encL ((List.range mo).map Gm))) (.d (encM (prodL ms))) (.d (.list ((cellsOf ns 12 (dl.getD 0 0)).map encV))) .un .un .un .un) (EvI.rng rfl B.range (Ev.ixL (.nm 3) (.nm 6) (nd_at (by omega))) ?_) ?_ ?_ ?_ ?_) rfl scLaw.nd (blkOk_by rfl))) ?_)) <|
    Ex.cons (ES.st 15 scLaw.nd (Ev.cast (d' := encV (v.map fun x => -x)) (Ev.tupO rfl rfl B.tuple (LcC.ev (own := [("x", 20)]) (LcC.map v (fun x => .int (-x)) (EvI.tup (.nm 14)) ?_ ?_ ?_) rfl scLaw.nd (blkOk_by rfl))) (by simp [encV]))) <|
    Ex.cons (ES.stF 16 scLaw.nd (EvO.cast (es := long.map encM) (EvO.cat (EvO.ev (EvO.cat (EvO.ev (EvO.slice (.nm 10) .none (.some (.nm 6)))) (Ev.li2 (Ev.cl CH hr (by decide) rfl (EvA.cons (.nm 14) .nil) (.ok kv) (.none rfl)) (Ev.cl CH hr (by decide) rfl (EvA.cons (.nm 15) .nil) (.ok kv2) (.none rfl))) ?_)) (EvO.ev (EvO.slice (.nm 10) (.some (.nm 6)) .none)) ?_) ?_)) <|
    Ex.cons (ES.skip (EvT.not (EvT.val (Ev.cl CQ hr (by decide) rfl (EvA.cons (.nm 16) (EvA.consC (.nm 12) ?_ (EvA.cons (.nm 13) .nil))) (.ok CI2.1 cells_ok) (.none rfl)))) rfl) <|
    Ex.cons (ES.st 17 scLaw.nd (Ev.cl CL hr (by decide) rfl (EvA.cons (.nm 10) .nil) (.ok C1) (.none rfl))) <|
    Ex.cons (ES.skip (EvW.t (EvW.or (EvT.not (EvT.val (Ev.cl CJ hr (by decide) rfl (EvA.cons (.nm 17) (EvA.cons (.nm 12) (EvA.cons (.nm 11) .nil))) (.ok pw.1 sp C2) (.none rfl)))) (fun _ => EvW.or1 (EvT.not (EvT.val (Ev.clO CI hr (by decide) rfl (EvO.li1 (Ev.cl CN hr (by decide) rfl (EvA.cons (.nm 0) (EvA.cons .int .nil)) (RNumber.ok (k := 13) hn (by decide)) (.none rfl))) (EvA.cons (.nm 17) (EvA.cons (.nm 12) .nil)) (.ok pw.1 sp))))))) rfl) <|
    Ex.one (ES.ret (Ev.cast (Ev.and (k := true) (l := true) (Ev.clO CR hr (by decide) rfl (EvO.li1 (Ev.cl CN hr (by decide) rfl (EvA.cons (.nm 0) (EvA.cons .int .nil)) (RNumber.ok (k := 14) hn (by decide)) (.none rfl))) (EvA.cons (.nm 17) (EvA.cons (.nm 12) .nil)) (.ok pw.1 sp)) (fun _ => Ev.one (Ev.cl CS hr (by decide) rfl (EvA.cons (Ev.cl CL hr (by decide) rfl (EvA.cons (.nm 10) .nil) (.ok C1) (.none rfl)) (EvA.cons (.nm 12) .nil)) (same_ok fp) (.none rfl))) (fun _ => rfl)) rfl))⟩
  · omega
  · rw [hp1]
    exact .same (.same (.same (.same (.same (.same (.same (.same (.same (.same (.same (.same (.same (.same (.same (.same (.same (.same (.same (.same (.same .nil))))))))))))))))))))
  · simp; omega
  · intro i x hx
    refine .p1S 18 scLaw.nd ?_ (Agr.set (i := 18) (d := .d (.int x)) .refl (by decide))
    rintro Y ⟨_, _, _, _, _, rfl⟩
    exact .add .int (drw CD hr (by decide) 1 .int (by decide) s3)
  · rw [List.length_range, hp2]
  · rw [← hdl, List.length_range, List.map_map]
    refine List.map_congr_left fun i _ => ?_
    exact (dim (dv p1 3 i)).1
  · exact esl.1
  · exact eat.1
  · show WkL _ (lawS1 ns p7 c mo sl at_ st dl .un .un .un .un .un .un .un .un .un .un)
    rw [← hp7]
    exact .same (.same (.same (.same (.same (.same (.same (.same (.same (.same (.same (.same (.same (.same (.same (.same (.same (.same (.same (.same (.same .nil))))))))))))))))))))
  · omega
  · exact .same (.same (.same (.same (.same (.same (.same (.same (.same (.same (.same (.same (.same (.same (.same (.same (.same (.same (.same (.same (.same .nil))))))))))))))))))))
  · simp; omega
  · intro i x hx
    refine .p1S 18 scLaw.nd ?_ (Agr.set (i := 18) (d := .d (.int x)) .refl (by decide))
    rintro Y ⟨_, _, _, _, _, rfl⟩
    exact .add .int (drw CD hr (by decide) 1 .int (by decide) s3)
  · rw [List.length_range, hp8]
  · rw [sizeLine_eq]
    simp
    omega
  · rw [← hol, List.length_range, List.map_cons, List.map_map]
    show natD st :: _ = natD st :: _
    congr 1
    refine List.map_congr_left fun i _ => ?_
    exact (dim (dv p7 3 i)).1
  · unfold natD
    congr 1
    omega
  · omega
  · exact .of
  · simp; omega
  · intro k hk
    have hk := List.mem_range.mp hk
    refine .p1 18 scLaw.nd ?_
    rintro Y ⟨_, _, _, _, _, rfl⟩
    refine Ev.cl CMp hr (by decide) rfl (EvA.cons (.nm 0) (EvA.consC (Ev.add .int (.nm 18)) (tkk 1 k) (EvA.cons (Ev.ixL (.nm 3) (.nm 18) (nd_at (by omega))) (EvA.cons (Ev.ixL (.nm 3) (Ev.add (.nm 18) .int) (nd_at1 (by omega))) (EvA.consC (d' := .int ((sl * (if k = c - 1 then 1 else 0) : Nat) : Int)) (Ev.mul (.nm 5) (Ev.intB rfl rfl B.int (Ev.eqI (.nm 18) (.nm 9))) ?_) ?_ .nil))))) (.ok hn (by omega) (kd k (by omega)) (kd (k + 1) (by omega)) (fl1 _ _)) (.none rfl)
    · rw [flagD]
      exact Sm.mul (Sm.of (k := 10) (by have : (sl : Int).natAbs = sl := Int.natAbs_natCast _; omega)) (Sm.of (k := 10) (by rw [Int.natAbs_natCast]; have := gl1 k (c - 1); omega))
    · rw [flagD, Int.natCast_mul]
  · rw [← hms, List.map_map]
    rfl
  · omega
  · exact .of
  · simp; omega
  · intro k hk
    have hk := List.mem_range.mp hk
    refine .p1 18 scLaw.nd ?_
    rintro Y ⟨_, _, _, _, _, rfl⟩
    refine Ev.cl CMp hr (by decide) rfl (EvA.cons (.nm 0) (EvA.consC (Ev.add .int (.nm 18)) (tkk 8 k) (EvA.cons (Ev.ixL (.nm 8) (.nm 18) (nd_at (by omega))) (EvA.cons (Ev.ixL (.nm 8) (Ev.add (.nm 18) .int) (nd_at1 (by omega))) (EvA.consC (d' := .int ((if k = mo - 1 then 1 else 0 : Nat) : Int)) (Ev.intB rfl rfl B.int (Ev.eqI (.nm 18) (Ev.cast (d' := natD (mo - 1)) (Ev.sub (.nm 4) .int) ?_))) ?_ .nil))))) (.ok hn (by omega) (ko k (by omega)) (ko (k + 1) (by omega)) (gl1 _ _)) (.none rfl)
    · unfold natD
      congr 1
      omega
    · exact congrArg PyData.int (flagD k (mo - 1))
  · rw [List.map_map]
    rfl
  · omega
  · omega
  · exact .same (.same (.same (.same (.same (.same (.same (.same (.same (.same (.same (.same (.same (.same (.same (.same (.same (.same (.same (.same (.same .nil))))))))))))))))))))
  · rw [List.length_range]
    exact Nat.le_trans kda.2 (by decide)
  · intro i x hx
    refine .p1S 19 scLaw.nd ?_ (Agr.set (i := 19) (d := .d (.int x)) .refl (by decide))
    rintro Y ⟨_, _, _, _, _, rfl⟩
    exact .sub (drw CD hr (by decide) 1 (Ev.cast (Ev.add (Ev.mul .int (Ev.pow .int .int c20) m20) .int) eM) M0 sM) (Ev.pow .int .int c20)
  · rw [List.length_range]
  · rw [← hv]; simp [encV, digs]
  · exact .of
  · rw [lv]; omega
  · intro x hx
    refine .p1 20 scLaw.nd ?_
    rintro Y ⟨_, _, _, _, _, rfl⟩
    exact .neg (.nm 20)
  · rw [cutA, sizeLine_eq]
    simp
    omega
  · rw [cutA, cutB, sizeLine_eq]
    simp
    omega
  · rw [cutA, cutB]
    exact elong
  · rw [CI2.2]
end
end K2

/-! K2Z: the end. -/
namespace K2
open PySem PySem.Spec PyProof.Rows L2 DL
theorem Def.mk' {K : PySem.W.Frag} {h : Heap} {mg : Str → Option Value} {x : Str} {st : Stmt} {ps : List Str} {f : Addr} {oc kV dc pm cd ct : Value} {od an : Option Addr} {sl : Array (Option Value)} (X : K.In h) (G : h.Ns mainGlobals mg) (a : PySem.W.nsIn K mainGlobals x = some (some (.ref f)))
    (l : K.lookup f = some ⟨oc, od, .func (PySem.W.fnOf x x (defArgs st) (defBody st) (defScope st) .none kV dc pm an cd ct), sl⟩) (c : PySem.W.codeIn K cd x = true) (k : PySem.W.keepIn K (.ref f) = true)
    (hb : ∀ (kV doc pm : Value) (an : Option Addr) (cdv ct : Value) (us : List Value), us.length = ps.length → bindArgs (PySem.W.fnOf x x (defArgs st) (defBody st) (defScope st) .none kV doc pm an cdv ct) ⟨us, []⟩ = pure (ps.zip us)) : Def K mg x st ps :=
  ⟨f, _, fun_mk l c k, PySem.W.mg_of X G a, (fun_mk l c k).binds hb⟩
theorem nmLength : PySem.DLX.NmOk "length" := ⟨rfl, rfl, rfl, rfl, by decide, by decide, fun _ _ _ _ _ _ _ _ _ _ _ _ => rfl⟩
theorem nmWhy : PySem.DLX.NmOk "why" := ⟨rfl, rfl, rfl, rfl, by decide, by decide, fun _ _ _ _ _ _ _ _ _ _ _ _ => rfl⟩
theorem all_mk {P : Program} {wo : World} {K : PySem.W.Frag} {h : Heap} {mg : Str → Option Value} {fa : Addr} (X : K.In h) (G : h.Ns mainGlobals mg) (hfa : mg "law" = some (.ref fa))
    {f7 : Addr} {oc7 kV7 dc7 pm7 cd7 ct7 : Value} {od7 an7 : Option Addr} {sl7 : Array (Option Value)}
    {f8 : Addr} {oc8 kV8 dc8 pm8 cd8 ct8 : Value} {od8 an8 : Option Addr} {sl8 : Array (Option Value)}
    {f10 : Addr} {oc10 kV10 dc10 pm10 cd10 ct10 : Value} {od10 an10 : Option Addr} {sl10 : Array (Option Value)}
    {f11 : Addr} {oc11 kV11 dc11 pm11 cd11 ct11 : Value} {od11 an11 : Option Addr} {sl11 : Array (Option Value)}
    {f12 : Addr} {oc12 kV12 dc12 pm12 cd12 ct12 : Value} {od12 an12 : Option Addr} {sl12 : Array (Option Value)}
    {f13 : Addr} {oc13 kV13 dc13 pm13 cd13 ct13 : Value} {od13 an13 : Option Addr} {sl13 : Array (Option Value)}
    {f14 : Addr} {oc14 kV14 dc14 pm14 cd14 ct14 : Value} {od14 an14 : Option Addr} {sl14 : Array (Option Value)}
    {f16 : Addr} {oc16 kV16 dc16 pm16 cd16 ct16 : Value} {od16 an16 : Option Addr} {sl16 : Array (Option Value)}
    {f17 : Addr} {oc17 kV17 dc17 pm17 cd17 ct17 : Value} {od17 an17 : Option Addr} {sl17 : Array (Option Value)}
    {f18 : Addr} {oc18 kV18 dc18 pm18 cd18 ct18 : Value} {od18 an18 : Option Addr} {sl18 : Array (Option Value)}
    {f19 : Addr} {oc19 kV19 dc19 pm19 cd19 ct19 : Value} {od19 an19 : Option Addr} {sl19 : Array (Option Value)}
    {f20 : Addr} {oc20 kV20 dc20 pm20 cd20 ct20 : Value} {od20 an20 : Option Addr} {sl20 : Array (Option Value)}
    {f21 : Addr} {oc21 kV21 dc21 pm21 cd21 ct21 : Value} {od21 an21 : Option Addr} {sl21 : Array (Option Value)}
    {f22 : Addr} {oc22 kV22 dc22 pm22 cd22 ct22 : Value} {od22 an22 : Option Addr} {sl22 : Array (Option Value)}
    {f23 : Addr} {oc23 kV23 dc23 pm23 cd23 ct23 : Value} {od23 an23 : Option Addr} {sl23 : Array (Option Value)}
    {f24 : Addr} {oc24 kV24 dc24 pm24 cd24 ct24 : Value} {od24 an24 : Option Addr} {sl24 : Array (Option Value)}
    {f25 : Addr} {oc25 kV25 dc25 pm25 cd25 ct25 : Value} {od25 an25 : Option Addr} {sl25 : Array (Option Value)}
    {f26 : Addr} {oc26 kV26 dc26 pm26 cd26 ct26 : Value} {od26 an26 : Option Addr} {sl26 : Array (Option Value)}
    {f27 : Addr} {oc27 kV27 dc27 pm27 cd27 ct27 : Value} {od27 an27 : Option Addr} {sl27 : Array (Option Value)}
    {f28 : Addr} {oc28 kV28 dc28 pm28 cd28 ct28 : Value} {od28 an28 : Option Addr} {sl28 : Array (Option Value)}
    {f29 : Addr} {oc29 kV29 dc29 pm29 cd29 ct29 : Value} {od29 an29 : Option Addr} {sl29 : Array (Option Value)}
    {f30 : Addr} {oc30 kV30 dc30 pm30 cd30 ct30 : Value} {od30 an30 : Option Addr} {sl30 : Array (Option Value)}
    {f31 : Addr} {oc31 kV31 dc31 pm31 cd31 ct31 : Value} {od31 an31 : Option Addr} {sl31 : Array (Option Value)}
    {f32 : Addr} {oc32 kV32 dc32 pm32 cd32 ct32 : Value} {od32 an32 : Option Addr} {sl32 : Array (Option Value)}
    {cP cD cT : Addr}
    {cB iB : Addr} {nmB qB : Str} {NB : Addr} {bsB bmB : List Value} {snB : List Str} {subB : List Value} {abB : Bool} {colB : Option Bool} {ddB : Option Addr} {m0B m1B m2B m3B m5B : Option Value}
    {xoB : Value} {xdB : Option Addr} {xqB : Str} {xdcB xpmB xctB : Value} {xanB : Option Addr} {xaB xcB : Addr} {xsB : Array (Option Value)} {xtB : Str} {vlB : Value} {vdB : Option Addr} {vvB : Array Value} {vsB : Array (Option Value)} {vfB : Str} {vtB : Tok} {ylB : Value} {ydB : Option Addr} {ysB : Array (Option Value)}
    {pB0 pB1 pB2 pB3 pB4 pB5 pB6 pB7 pB8 pB9 pB10 pB11 : Pos}
    {cM iM : Addr} {nmM qM : Str} {NM : Addr} {bsM bmM : List Value} {snM : List Str} {subM : List Value} {abM : Bool} {colM : Option Bool} {ddM : Option Addr} {m0M m1M m2M m3M m5M : Option Value}
    {xoM : Value} {xdM : Option Addr} {xqM : Str} {xdcM xpmM xctM : Value} {xanM : Option Addr} {xaM xcM : Addr} {xsM : Array (Option Value)} {xtM : Str} {vlM : Value} {vdM : Option Addr} {vvM : Array Value} {vsM : Array (Option Value)} {vfM : Str} {vtM : Tok} {ylM : Value} {ydM : Option Addr} {ysM : Array (Option Value)}
    {pM0 pM1 pM2 pM3 pM4 pM5 pM6 pM7 pM8 pM9 pM10 pM11 : Pos}
    (a7 : PySem.W.nsIn K mainGlobals "check_length" = some (some (.ref f7)))
    (l7 : K.lookup f7 = some ⟨oc7, od7, .func (PySem.W.fnOf "check_length" "check_length" (defArgs (top 7)) (defBody (top 7)) (defScope (top 7)) .none kV7 dc7 pm7 an7 cd7 ct7), sl7⟩)
    (c7 : PySem.W.codeIn K cd7 "check_length" = true)
    (k7 : PySem.W.keepIn K (.ref f7) = true)
    (a8 : PySem.W.nsIn K mainGlobals "halved" = some (some (.ref f8)))
    (l8 : K.lookup f8 = some ⟨oc8, od8, .func (PySem.W.fnOf "halved" "halved" (defArgs (top 8)) (defBody (top 8)) (defScope (top 8)) .none kV8 dc8 pm8 an8 cd8 ct8), sl8⟩)
    (c8 : PySem.W.codeIn K cd8 "halved" = true)
    (k8 : PySem.W.keepIn K (.ref f8) = true)
    (a10 : PySem.W.nsIn K mainGlobals "dot" = some (some (.ref f10)))
    (l10 : K.lookup f10 = some ⟨oc10, od10, .func (PySem.W.fnOf "dot" "dot" (defArgs (top 10)) (defBody (top 10)) (defScope (top 10)) .none kV10 dc10 pm10 an10 cd10 ct10), sl10⟩)
    (c10 : PySem.W.codeIn K cd10 "dot" = true)
    (k10 : PySem.W.keepIn K (.ref f10) = true)
    (a11 : PySem.W.nsIn K mainGlobals "column_of" = some (some (.ref f11)))
    (l11 : K.lookup f11 = some ⟨oc11, od11, .func (PySem.W.fnOf "column_of" "column_of" (defArgs (top 11)) (defBody (top 11)) (defScope (top 11)) .none kV11 dc11 pm11 an11 cd11 ct11), sl11⟩)
    (c11 : PySem.W.codeIn K cd11 "column_of" = true)
    (k11 : PySem.W.keepIn K (.ref f11) = true)
    (a12 : PySem.W.nsIn K mainGlobals "applied" = some (some (.ref f12)))
    (l12 : K.lookup f12 = some ⟨oc12, od12, .func (PySem.W.fnOf "applied" "applied" (defArgs (top 12)) (defBody (top 12)) (defScope (top 12)) .none kV12 dc12 pm12 an12 cd12 ct12), sl12⟩)
    (c12 : PySem.W.codeIn K cd12 "applied" = true)
    (k12 : PySem.W.keepIn K (.ref f12) = true)
    (a13 : PySem.W.nsIn K mainGlobals "shift_map" = some (some (.ref f13)))
    (l13 : K.lookup f13 = some ⟨oc13, od13, .func (PySem.W.fnOf "shift_map" "shift_map" (defArgs (top 13)) (defBody (top 13)) (defScope (top 13)) .none kV13 dc13 pm13 an13 cd13 ct13), sl13⟩)
    (c13 : PySem.W.codeIn K cd13 "shift_map" = true)
    (k13 : PySem.W.keepIn K (.ref f13) = true)
    (a14 : PySem.W.nsIn K mainGlobals "after" = some (some (.ref f14)))
    (l14 : K.lookup f14 = some ⟨oc14, od14, .func (PySem.W.fnOf "after" "after" (defArgs (top 14)) (defBody (top 14)) (defScope (top 14)) .none kV14 dc14 pm14 an14 cd14 ct14), sl14⟩)
    (c14 : PySem.W.codeIn K cd14 "after" = true)
    (k14 : PySem.W.keepIn K (.ref f14) = true)
    (a16 : PySem.W.nsIn K mainGlobals "_law_number" = some (some (.ref f16)))
    (l16 : K.lookup f16 = some ⟨oc16, od16, .func (PySem.W.fnOf "_law_number" "_law_number" (defArgs (top 16)) (defBody (top 16)) (defScope (top 16)) .none kV16 dc16 pm16 an16 cd16 ct16), sl16⟩)
    (c16 : PySem.W.codeIn K cd16 "_law_number" = true)
    (k16 : PySem.W.keepIn K (.ref f16) = true)
    (a17 : PySem.W.nsIn K mainGlobals "_law_draw" = some (some (.ref f17)))
    (l17 : K.lookup f17 = some ⟨oc17, od17, .func (PySem.W.fnOf "_law_draw" "_law_draw" (defArgs (top 17)) (defBody (top 17)) (defScope (top 17)) .none kV17 dc17 pm17 an17 cd17 ct17), sl17⟩)
    (c17 : PySem.W.codeIn K cd17 "_law_draw" = true)
    (k17 : PySem.W.keepIn K (.ref f17) = true)
    (a18 : PySem.W.nsIn K mainGlobals "_law_same" = some (some (.ref f18)))
    (l18 : K.lookup f18 = some ⟨oc18, od18, .func (PySem.W.fnOf "_law_same" "_law_same" (defArgs (top 18)) (defBody (top 18)) (defScope (top 18)) .none kV18 dc18 pm18 an18 cd18 ct18), sl18⟩)
    (c18 : PySem.W.codeIn K cd18 "_law_same" = true)
    (k18 : PySem.W.keepIn K (.ref f18) = true)
    (a19 : PySem.W.nsIn K mainGlobals "_law_map" = some (some (.ref f19)))
    (l19 : K.lookup f19 = some ⟨oc19, od19, .func (PySem.W.fnOf "_law_map" "_law_map" (defArgs (top 19)) (defBody (top 19)) (defScope (top 19)) .none kV19 dc19 pm19 an19 cd19 ct19), sl19⟩)
    (c19 : PySem.W.codeIn K cd19 "_law_map" = true)
    (k19 : PySem.W.keepIn K (.ref f19) = true)
    (a20 : PySem.W.nsIn K mainGlobals "_law_then" = some (some (.ref f20)))
    (l20 : K.lookup f20 = some ⟨oc20, od20, .func (PySem.W.fnOf "_law_then" "_law_then" (defArgs (top 20)) (defBody (top 20)) (defScope (top 20)) .none kV20 dc20 pm20 an20 cd20 ct20), sl20⟩)
    (c20 : PySem.W.codeIn K cd20 "_law_then" = true)
    (k20 : PySem.W.keepIn K (.ref f20) = true)
    (a21 : PySem.W.nsIn K mainGlobals "_law_folded" = some (some (.ref f21)))
    (l21 : K.lookup f21 = some ⟨oc21, od21, .func (PySem.W.fnOf "_law_folded" "_law_folded" (defArgs (top 21)) (defBody (top 21)) (defScope (top 21)) .none kV21 dc21 pm21 an21 cd21 ct21), sl21⟩)
    (c21 : PySem.W.codeIn K cd21 "_law_folded" = true)
    (k21 : PySem.W.keepIn K (.ref f21) = true)
    (a22 : PySem.W.nsIn K mainGlobals "_law_led" = some (some (.ref f22)))
    (l22 : K.lookup f22 = some ⟨oc22, od22, .func (PySem.W.fnOf "_law_led" "_law_led" (defArgs (top 22)) (defBody (top 22)) (defScope (top 22)) .none kV22 dc22 pm22 an22 cd22 ct22), sl22⟩)
    (c22 : PySem.W.codeIn K cd22 "_law_led" = true)
    (k22 : PySem.W.keepIn K (.ref f22) = true)
    (a23 : PySem.W.nsIn K mainGlobals "_law_left" = some (some (.ref f23)))
    (l23 : K.lookup f23 = some ⟨oc23, od23, .func (PySem.W.fnOf "_law_left" "_law_left" (defArgs (top 23)) (defBody (top 23)) (defScope (top 23)) .none kV23 dc23 pm23 an23 cd23 ct23), sl23⟩)
    (c23 : PySem.W.codeIn K cd23 "_law_left" = true)
    (k23 : PySem.W.keepIn K (.ref f23) = true)
    (a24 : PySem.W.nsIn K mainGlobals "_law_right" = some (some (.ref f24)))
    (l24 : K.lookup f24 = some ⟨oc24, od24, .func (PySem.W.fnOf "_law_right" "_law_right" (defArgs (top 24)) (defBody (top 24)) (defScope (top 24)) .none kV24 dc24 pm24 an24 cd24 ct24), sl24⟩)
    (c24 : PySem.W.codeIn K cd24 "_law_right" = true)
    (k24 : PySem.W.keepIn K (.ref f24) = true)
    (a25 : PySem.W.nsIn K mainGlobals "_law_cells" = some (some (.ref f25)))
    (l25 : K.lookup f25 = some ⟨oc25, od25, .func (PySem.W.fnOf "_law_cells" "_law_cells" (defArgs (top 25)) (defBody (top 25)) (defScope (top 25)) .none kV25 dc25 pm25 an25 cd25 ct25), sl25⟩)
    (c25 : PySem.W.codeIn K cd25 "_law_cells" = true)
    (k25 : PySem.W.keepIn K (.ref f25) = true)
    (a26 : PySem.W.nsIn K mainGlobals "_law_asked" = some (some (.ref f26)))
    (l26 : K.lookup f26 = some ⟨oc26, od26, .func (PySem.W.fnOf "_law_asked" "_law_asked" (defArgs (top 26)) (defBody (top 26)) (defScope (top 26)) .none kV26 dc26 pm26 an26 cd26 ct26), sl26⟩)
    (c26 : PySem.W.codeIn K cd26 "_law_asked" = true)
    (k26 : PySem.W.keepIn K (.ref f26) = true)
    (a27 : PySem.W.nsIn K mainGlobals "_law_unit" = some (some (.ref f27)))
    (l27 : K.lookup f27 = some ⟨oc27, od27, .func (PySem.W.fnOf "_law_unit" "_law_unit" (defArgs (top 27)) (defBody (top 27)) (defScope (top 27)) .none kV27 dc27 pm27 an27 cd27 ct27), sl27⟩)
    (c27 : PySem.W.codeIn K cd27 "_law_unit" = true)
    (k27 : PySem.W.keepIn K (.ref f27) = true)
    (a28 : PySem.W.nsIn K mainGlobals "_law_shifts" = some (some (.ref f28)))
    (l28 : K.lookup f28 = some ⟨oc28, od28, .func (PySem.W.fnOf "_law_shifts" "_law_shifts" (defArgs (top 28)) (defBody (top 28)) (defScope (top 28)) .none kV28 dc28 pm28 an28 cd28 ct28), sl28⟩)
    (c28 : PySem.W.codeIn K cd28 "_law_shifts" = true)
    (k28 : PySem.W.keepIn K (.ref f28) = true)
    (a29 : PySem.W.nsIn K mainGlobals "_law_refused" = some (some (.ref f29)))
    (l29 : K.lookup f29 = some ⟨oc29, od29, .func (PySem.W.fnOf "_law_refused" "_law_refused" (defArgs (top 29)) (defBody (top 29)) (defScope (top 29)) .none kV29 dc29 pm29 an29 cd29 ct29), sl29⟩)
    (c29 : PySem.W.codeIn K cd29 "_law_refused" = true)
    (k29 : PySem.W.keepIn K (.ref f29) = true)
    (a30 : PySem.W.nsIn K mainGlobals "_law_joined" = some (some (.ref f30)))
    (l30 : K.lookup f30 = some ⟨oc30, od30, .func (PySem.W.fnOf "_law_joined" "_law_joined" (defArgs (top 30)) (defBody (top 30)) (defScope (top 30)) .none kV30 dc30 pm30 an30 cd30 ct30), sl30⟩)
    (c30 : PySem.W.codeIn K cd30 "_law_joined" = true)
    (k30 : PySem.W.keepIn K (.ref f30) = true)
    (a31 : PySem.W.nsIn K mainGlobals "_law_refusals" = some (some (.ref f31)))
    (l31 : K.lookup f31 = some ⟨oc31, od31, .func (PySem.W.fnOf "_law_refusals" "_law_refusals" (defArgs (top 31)) (defBody (top 31)) (defScope (top 31)) .none kV31 dc31 pm31 an31 cd31 ct31), sl31⟩)
    (c31 : PySem.W.codeIn K cd31 "_law_refusals" = true)
    (k31 : PySem.W.keepIn K (.ref f31) = true)
    (a32 : PySem.W.nsIn K mainGlobals "law" = some (some (.ref f32)))
    (l32 : K.lookup f32 = some ⟨oc32, od32, .func (PySem.W.fnOf "law" "law" (defArgs (top 32)) (defBody (top 32)) (defScope (top 32)) .none kV32 dc32 pm32 an32 cd32 ct32), sl32⟩)
    (c32 : PySem.W.codeIn K cd32 "law" = true)
    (k32 : PySem.W.keepIn K (.ref f32) = true)
    (b_len : PySem.W.nsIn K mainGlobals "len" = some none)
    (b_tuple : PySem.W.nsIn K mainGlobals "tuple" = some none)
    (b_sum : PySem.W.nsIn K mainGlobals "sum" = some none)
    (b_zip : PySem.W.nsIn K mainGlobals "zip" = some none)
    (b_range : PySem.W.nsIn K mainGlobals "range" = some none)
    (b_abs : PySem.W.nsIn K mainGlobals "abs" = some none)
    (b_int : PySem.W.nsIn K mainGlobals "int" = some none)
    (b_repr : PySem.W.nsIn K mainGlobals "repr" = some none)
    (b_list : PySem.W.nsIn K mainGlobals "list" = some none)
    (b_isinstance : PySem.W.nsIn K mainGlobals "isinstance" = some none)
    (b_ValueError : PySem.W.nsIn K mainGlobals "ValueError" = some none)
    (b_super : PySem.W.nsIn K mainGlobals "super" = some none)
    (op : PySem.W.nsIn K cStatics "thirdparty.any" = some none)
    (htop : (P.main.scope.names.lookup ("super" : Str)).isSome = false)
    (gP : PySem.W.nsIn K mainGlobals "PictureError" = some (some (.ref cP)))
    (gD : PySem.W.nsIn K mainGlobals "BadDim" = some (some (.ref cD)))
    (gT : PySem.W.nsIn K mainGlobals "TooMany" = some (some (.ref cT)))
    (pE : PySem.W.subIn K (.ref cP) (.type "BaseException") = some true)
    (pH : PySem.W.hasDictIn K cP = true)
    (pT : PySem.W.typeIn K (.ref cP) = some (.type "type"))
    (oG : PySem.W.specialIn K (.builtin "object.__class__") "__get__" = some (some (.builtin "getset_descriptor.__get__")))
    (oT : PySem.W.takesIn K (.builtin "object.__class__") = some true)
    (gB : PySem.W.nsIn K mainGlobals "BadCell" = some (some (.ref cB)))
    (xB : K.lookup cB = some (excClassObj nmB qB cB NB bsB bmB true snB subB abB colB ddB m0B m1B m2B m3B m5B "ValueError.__new__"))
    (rB : PySem.HandSPX.refsVE bmB = true)
    (saB : PySem.W.findIn K (.ref cB) "__setattr__" = some (some (.builtin "object.__setattr__")))
    (gaB : PySem.W.findIn K (.ref cB) "__getattribute__" = some (some (.builtin "BaseException.__getattribute__")))
    (ggB : PySem.W.findIn K (.ref cB) "__getattr__" = some none)
    (noB : PySem.W.findIn K (.ref cB) "length" = some none)
    (inB : PySem.W.findIn K (.ref cB) "__init__" = some (some (.ref iB)))
    (tiB : PySem.W.typeIn K (.ref iB) = some (.type "function"))
    (kcB : PySem.W.keepIn K (.ref cB) = true)
    (exB : PySem.W.subIn K (.ref cB) (.type "BaseException") = some true)
    (tyB : PySem.W.typeIn K (.ref cB) = some (.type "type"))
    (hdB : PySem.W.hasDictIn K cB = true)
    (suB : PySem.W.ks_superIn K cB cB "__init__" = some (some (.builtin "ValueError.__init__")))
    (veB : PySem.W.subIn K (.ref cB) (.type "ValueError") = some true)
    (seB : PySem.W.mroIn K cB (.ref cB) = some true)
    (clB : PySem.W.findIn K (.ref cB) "__class__" = some (some (.builtin "object.__class__")))
    (obB : PySem.W.mroIn K cB (.type "object") = some true)
    (piB : PySem.W.subIn K (.ref cB) (.ref cP) = some true)
    (flB : K.lookup iB = some ⟨xoB, xdB, .func (PySem.W.ksFn "__init__" xqB (PySem.DLX.xA "length" pB0 pB1) (PySem.DLX.xB "length" xtB pB2 pB3 pB4 pB5 pB6 pB7 pB8 pB9 pB10 pB11) (PySem.DLX.xS "length") .none .none xdcB xpmB xanB (.ref xaB) xctB xcB), xsB⟩)
    (fcB : PySem.W.codeIn K (.ref xaB) xqB = true)
    (frB : K.lookup xaB = some ⟨vlB, vdB, .fields vvB, vsB⟩)
    (fvB : vvB[2]? = some (.str vfB vtB))
    (ffB : ((P.main.file : Str) == vfB) = true)
    (fyB : K.lookup xcB = some ⟨ylB, ydB, .cell (some (.ref cB)), ysB⟩)
    (evB : ∀ L : Addr, ∃ pl : Sem Bool, eval (.Call (.Attribute (.Call (.Name "super" pB2) [] [] pB3) "__init__" pB4) [.Constant (.str xtB) 0 pB5] [] pB6) (PySem.W.ksEnv xqB (PySem.DLX.xS "length") L iB (.ref xaB) xcB) = (do
      let ov ← attributeBase (.Call (.Name "super" pB2) [] [] pB3) "__init__" (PySem.W.ksEnv xqB (PySem.DLX.xS "length") L iB (.ref xaB) xcB) (eval (.Call (.Name "super" pB2) [] [] pB3) (PySem.W.ksEnv xqB (PySem.DLX.xS "length") L iB (.ref xaB) xcB))
      standAt pB4.atName
      let (f', first) ← holding [ov] (getMethod ov "__init__" pl)
      callWith pB6 f' first (backTo pB6 (starEach [.Constant (.str xtB) 0 pB5] (PySem.W.ksEnv xqB (PySem.DLX.xS "length") L iB (.ref xaB) xcB))) []))
    (gM : PySem.W.nsIn K mainGlobals "BadMap" = some (some (.ref cM)))
    (xM : K.lookup cM = some (excClassObj nmM qM cM NM bsM bmM true snM subM abM colM ddM m0M m1M m2M m3M m5M "ValueError.__new__"))
    (rM : PySem.HandSPX.refsVE bmM = true)
    (saM : PySem.W.findIn K (.ref cM) "__setattr__" = some (some (.builtin "object.__setattr__")))
    (gaM : PySem.W.findIn K (.ref cM) "__getattribute__" = some (some (.builtin "BaseException.__getattribute__")))
    (ggM : PySem.W.findIn K (.ref cM) "__getattr__" = some none)
    (noM : PySem.W.findIn K (.ref cM) "why" = some none)
    (inM : PySem.W.findIn K (.ref cM) "__init__" = some (some (.ref iM)))
    (tiM : PySem.W.typeIn K (.ref iM) = some (.type "function"))
    (kcM : PySem.W.keepIn K (.ref cM) = true)
    (exM : PySem.W.subIn K (.ref cM) (.type "BaseException") = some true)
    (tyM : PySem.W.typeIn K (.ref cM) = some (.type "type"))
    (hdM : PySem.W.hasDictIn K cM = true)
    (suM : PySem.W.ks_superIn K cM cM "__init__" = some (some (.builtin "ValueError.__init__")))
    (veM : PySem.W.subIn K (.ref cM) (.type "ValueError") = some true)
    (seM : PySem.W.mroIn K cM (.ref cM) = some true)
    (clM : PySem.W.findIn K (.ref cM) "__class__" = some (some (.builtin "object.__class__")))
    (obM : PySem.W.mroIn K cM (.type "object") = some true)
    (piM : PySem.W.subIn K (.ref cM) (.ref cP) = some true)
    (flM : K.lookup iM = some ⟨xoM, xdM, .func (PySem.W.ksFn "__init__" xqM (PySem.DLX.xA "why" pM0 pM1) (PySem.DLX.xB "why" xtM pM2 pM3 pM4 pM5 pM6 pM7 pM8 pM9 pM10 pM11) (PySem.DLX.xS "why") .none .none xdcM xpmM xanM (.ref xaM) xctM xcM), xsM⟩)
    (fcM : PySem.W.codeIn K (.ref xaM) xqM = true)
    (frM : K.lookup xaM = some ⟨vlM, vdM, .fields vvM, vsM⟩)
    (fvM : vvM[2]? = some (.str vfM vtM))
    (ffM : ((P.main.file : Str) == vfM) = true)
    (fyM : K.lookup xcM = some ⟨ylM, ydM, .cell (some (.ref cM)), ysM⟩)
    (evM : ∀ L : Addr, ∃ pl : Sem Bool, eval (.Call (.Attribute (.Call (.Name "super" pM2) [] [] pM3) "__init__" pM4) [.Constant (.str xtM) 0 pM5] [] pM6) (PySem.W.ksEnv xqM (PySem.DLX.xS "why") L iM (.ref xaM) xcM) = (do
      let ov ← attributeBase (.Call (.Name "super" pM2) [] [] pM3) "__init__" (PySem.W.ksEnv xqM (PySem.DLX.xS "why") L iM (.ref xaM) xcM) (eval (.Call (.Name "super" pM2) [] [] pM3) (PySem.W.ksEnv xqM (PySem.DLX.xS "why") L iM (.ref xaM) xcM))
      standAt pM4.atName
      let (f', first) ← holding [ov] (getMethod ov "__init__" pl)
      callWith pM6 f' first (backTo pM6 (starEach [.Constant (.str xtM) 0 pM5] (PySem.W.ksEnv xqM (PySem.DLX.xS "why") L iM (.ref xaM) xcM))) []))
    (qBB : PySem.W.kitOne K (.ref cB) (.ref cB) = some true)
    (qBM : PySem.W.kitOne K (.ref cB) (.ref cM) = some false)
    (qBD : PySem.W.kitOne K (.ref cB) (.ref cD) = some false)
    (qBT : PySem.W.kitOne K (.ref cB) (.ref cT) = some false)
    (qBV : PySem.W.kitOne K (.ref cB) (.type "ValueError") = some true)
    (qMB : PySem.W.kitOne K (.ref cM) (.ref cB) = some false)
    (qMM : PySem.W.kitOne K (.ref cM) (.ref cM) = some true)
    (qMD : PySem.W.kitOne K (.ref cM) (.ref cD) = some false)
    (qMT : PySem.W.kitOne K (.ref cM) (.ref cT) = some false)
    (qMV : PySem.W.kitOne K (.ref cM) (.type "ValueError") = some true) :
    ∃ fd : FuncData, (∀ (s : Shared) (u : Value), BindsTo s fd ⟨[u], []⟩ [("script", u)]) ∧ ∀ base : Heap, K.In base → base.Ns mainGlobals mg → FnG P wo K mg base 7 fa fd ["script"] (spD K RLaw) := by
  have e := hfa.symm.trans (PySem.W.mg_of X G a32)
  cases e
  have no := fun (x : Str) (q : PySem.W.nsIn K mainGlobals x = some none) => PySem.W.mg_none_of X G q
  have B : Bt mg := ⟨no _ b_len, no _ b_tuple, no _ b_sum, no _ b_zip, no _ b_range, no _ b_abs, no _ b_int, no _ b_repr, no _ b_list, no _ b_isinstance, no _ b_ValueError⟩
  have EB : PySem.DLX.ErrTxt P K mg "BadCell" "length" cB iB :=
    { gC := PySem.W.mg_of X G gB, cls := ⟨_, _, _, _, _, _, _, _, _, _, _, _, _, _, _, xB, rB⟩, sa := saB, ga := gaB, gg := ggB, noN := noB, iC := inB, tC := tiB, kC := kcB, exC := exB, tyC := tyB, hdC := hdB, nm := nmLength, noS := no _ b_super, op := op, supI := suB, subVE := veB, selfC := seB, htop := htop,
      fn := ⟨_, _, _, _, _, _, _, _, _, _, _, _, _, _, _, _, _, _, _, _, _, _, _, _, _, _, _, _, _, _, _, _, flB, fcB, frB, fvB, ffB, fyB, evB⟩ }
  have XB : ExcK K cB := ⟨by obtain ⟨cd, hc, _⟩ := PySem.W.any_some hdB; rw [hc]; rfl, gaB, ggB, exB, hdB, clB, oG, oT, obB⟩
  have EM : PySem.DLX.ErrTxt P K mg "BadMap" "why" cM iM :=
    { gC := PySem.W.mg_of X G gM, cls := ⟨_, _, _, _, _, _, _, _, _, _, _, _, _, _, _, xM, rM⟩, sa := saM, ga := gaM, gg := ggM, noN := noM, iC := inM, tC := tiM, kC := kcM, exC := exM, tyC := tyM, hdC := hdM, nm := nmWhy, noS := no _ b_super, op := op, supI := suM, subVE := veM, selfC := seM, htop := htop,
      fn := ⟨_, _, _, _, _, _, _, _, _, _, _, _, _, _, _, _, _, _, _, _, _, _, _, _, _, _, _, _, _, _, _, _, flM, fcM, frM, fvM, ffM, fyM, evM⟩ }
  have XM : ExcK K cM := ⟨by obtain ⟨cd, hc, _⟩ := PySem.W.any_some hdM; rw [hc]; rfl, gaM, ggM, exM, hdM, clM, oG, oT, obM⟩
  have T : Kit K mg cB cM cD cT cP := ⟨PySem.W.mg_of X G gP, PySem.W.mg_of X G gB, PySem.W.mg_of X G gM, PySem.W.mg_of X G gD, PySem.W.mg_of X G gT, XB, XM, PySem.W.exm_ref pE pH pT piB, PySem.W.exm_ref pE pH pT piM, qBB, qBM, qBD, qBT, qBV, qMB, qMM, qMD, qMT, qMV, noB, noM⟩
  have D7 : Def K mg "check_length" (top 7) ["cell"] := Def.mk' X G a7 l7 c7 k7 fun _ _ _ _ _ _ us hl => match us, hl with | [_], _ => rfl
  have D8 : Def K mg "halved" (top 8) ["cell"] := Def.mk' X G a8 l8 c8 k8 fun _ _ _ _ _ _ us hl => match us, hl with | [_], _ => rfl
  have D10 : Def K mg "dot" (top 10) ["row", "vector"] := Def.mk' X G a10 l10 c10 k10 fun _ _ _ _ _ _ us hl => match us, hl with | [_, _], _ => rfl
  have D11 : Def K mg "column_of" (top 11) ["rows", "j"] := Def.mk' X G a11 l11 c11 k11 fun _ _ _ _ _ _ us hl => match us, hl with | [_, _], _ => rfl
  have D12 : Def K mg "applied" (top 12) ["mapping", "cell"] := Def.mk' X G a12 l12 c12 k12 fun _ _ _ _ _ _ us hl => match us, hl with | [_, _], _ => rfl
  have D13 : Def K mg "shift_map" (top 13) ["vector"] := Def.mk' X G a13 l13 c13 k13 fun _ _ _ _ _ _ us hl => match us, hl with | [_], _ => rfl
  have D14 : Def K mg "after" (top 14) ["first", "second"] := Def.mk' X G a14 l14 c14 k14 fun _ _ _ _ _ _ us hl => match us, hl with | [_, _], _ => rfl
  have D16 : Def K mg "_law_number" (top 16) ["script", "k"] := Def.mk' X G a16 l16 c16 k16 fun _ _ _ _ _ _ us hl => match us, hl with | [_, _], _ => rfl
  have D17 : Def K mg "_law_draw" (top 17) ["pool", "most"] := Def.mk' X G a17 l17 c17 k17 fun _ _ _ _ _ _ us hl => match us, hl with | [_, _], _ => rfl
  have D18 : Def K mg "_law_same" (top 18) ["told", "due"] := Def.mk' X G a18 l18 c18 k18 fun _ _ _ _ _ _ us hl => match us, hl with | [_, _], _ => rfl
  have D19 : Def K mg "_law_map" (top 19) ["script", "k", "wide", "high", "slow"] := Def.mk' X G a19 l19 c19 k19 fun _ _ _ _ _ _ us hl => match us, hl with | [_, _, _, _, _], _ => rfl
  have D20 : Def K mg "_law_then" (top 20) ["first", "second"] := Def.mk' X G a20 l20 c20 k20 fun _ _ _ _ _ _ us hl => match us, hl with | [_, _], _ => rfl
  have D21 : Def K mg "_law_folded" (top 21) ["chain"] := Def.mk' X G a21 l21 c21 k21 fun _ _ _ _ _ _ us hl => match us, hl with | [_], _ => rfl
  have D22 : Def K mg "_law_led" (top 22) ["mapping", "cell"] := Def.mk' X G a22 l22 c22 k22 fun _ _ _ _ _ _ us hl => match us, hl with | [_, _], _ => rfl
  have D23 : Def K mg "_law_left" (top 23) ["chain"] := Def.mk' X G a23 l23 c23 k23 fun _ _ _ _ _ _ us hl => match us, hl with | [_], _ => rfl
  have D24 : Def K mg "_law_right" (top 24) ["chain"] := Def.mk' X G a24 l24 c24 k24 fun _ _ _ _ _ _ us hl => match us, hl with | [_], _ => rfl
  have D25 : Def K mg "_law_cells" (top 25) ["script", "k", "dim"] := Def.mk' X G a25 l25 c25 k25 fun _ _ _ _ _ _ us hl => match us, hl with | [_, _, _], _ => rfl
  have D26 : Def K mg "_law_asked" (top 26) ["chain", "due", "cells"] := Def.mk' X G a26 l26 c26 k26 fun _ _ _ _ _ _ us hl => match us, hl with | [_, _, _], _ => rfl
  have D27 : Def K mg "_law_unit" (top 27) ["dim"] := Def.mk' X G a27 l27 c27 k27 fun _ _ _ _ _ _ us hl => match us, hl with | [_], _ => rfl
  have D28 : Def K mg "_law_shifts" (top 28) ["pool", "told", "due"] := Def.mk' X G a28 l28 c28 k28 fun _ _ _ _ _ _ us hl => match us, hl with | [_, _, _], _ => rfl
  have D29 : Def K mg "_law_refused" (top 29) ["mode", "one", "two"] := Def.mk' X G a29 l29 c29 k29 fun _ _ _ _ _ _ us hl => match us, hl with | [_, _, _], _ => rfl
  have D30 : Def K mg "_law_joined" (top 30) ["told", "due", "chain"] := Def.mk' X G a30 l30 c30 k30 fun _ _ _ _ _ _ us hl => match us, hl with | [_, _, _], _ => rfl
  have D31 : Def K mg "_law_refusals" (top 31) ["pool", "told", "due"] := Def.mk' X G a31 l31 c31 k31 fun _ _ _ _ _ _ us hl => match us, hl with | [_, _, _], _ => rfl
  have D32 : Def K mg "law" (top 32) ["script"] := Def.mk' X G a32 l32 c32 k32 fun _ _ _ _ _ _ us hl => match us, hl with | [_], _ => rfl
  refine ⟨PySem.W.fnOf "law" "law" (defArgs (top 32)) (defBody (top 32)) (defScope (top 32)) .none kV32 dc32 pm32 an32 cd32 ct32, fun s u => .of_eq rfl, fun base _ _ => ?_⟩
  have C7 : Cl P wo K mg base 2 "check_length" ["cell"] (RCheck cB) := ok_check D7 B EB
  have C8 := ok_halved D8 B C7
  have C10 : Cl P wo K mg base 1 "dot" ["row", "vector"] RDot := ok_dot D10 B
  have C11 : Cl P wo K mg base 1 "column_of" ["rows", "j"] RCol := ok_col D11 B
  have C12 := ok_applied D12 B EB C10 C8
  have C13 := ok_shift D13 B C7
  have C14 := ok_after D14 B EM C10 C11
  have C16 : Cl P wo K mg base 1 "_law_number" ["script", "k"] RNumber := ok_number D16 B
  have C17 : Cl P wo K mg base 1 "_law_draw" ["pool", "most"] RDraw := ok_draw D17 B
  have C18 : Cl P wo K mg base 1 "_law_same" ["told", "due"] RSame := ok_same D18 B
  have C19 := ok_map D19 B C16 C17
  have C20 : Cl P wo K mg base 1 "_law_then" ["first", "second"] RThen := ok_then D20 B
  have C21 := ok_folded D21 B C20
  have C22 : Cl P wo K mg base 1 "_law_led" ["mapping", "cell"] RLed := ok_led D22 B
  have C23 := ok_left D23 B C14
  have C24 := ok_right D24 B C14
  have C25 := ok_cells D25 B C16 C17
  have C26 := ok_asked D26 B C23 C24 C18 C12 C22
  have C27 : Cl P wo K mg base 1 "_law_unit" ["dim"] RUnit := ok_unit D27 B
  have C29 := ok_refused D29 B T C12 C14 C13
  have C28 := ok_shifts D28 B C17 C18 C29 C13 C27 C14
  have C30 := ok_joined D30 B C23 C24 C18 C29 C20 C21 C14
  have C31 := ok_refusals D31 B C17 C18 C29
  have C32 := ok_law D32 B C16 C17 C18 C19 C21 C25 C26 C13 C23 C30 C28 C31
  obtain ⟨f', fd', F', g', kp', b', oc', od', osl', lk'⟩ := C32.ex
  rw [hfa] at g'
  cases g'
  rw [l32] at lk'
  cases lk'
  exact F'
theorem sp_law {K : PySem.W.Frag} {H : Hp} {a : Addr} {ns : List Int} (hl : ns.length ≤ 63) (hS : SqL K H a (ns.map V.int)) : spD K RLaw [.ref a] H (fun v _ => v = .bl true) fun _ _ _ => False := by
  refine ⟨[.d (.list (ns.map .int))], _, H, .ok hl, ⟨fun _ _ e => e, rfl, fun i den e => ?_, fun i j b h1 _ => ?_⟩, fun v G' H' n q => ?_⟩
  · cases i with
    | zero =>
      cases e
      exact ⟨.ref a, rfl, .lst hS DpAll.of_ints⟩
    | succ i => simp at e
  · obtain ⟨h1, _⟩ := h1
    cases i with
    | zero => cases h1
    | succ i => simp [isOwn] at h1
  · cases q
    rfl
end K2

open PySem PySem.W PyProof.Rows
set_option maxRecDepth 100000 in
set_option maxHeartbeats 0 in
theorem PySem.Challenge.cw_quadsets_k02_maps_chained_holds : PySem.Challenge.rw_quadsets_k02_maps_chained.Holds := by
  w_on; o_law; k_head; (case hw => w_witness2)
  k_fill
  refine DL.walk_go (l := PySem.Challenge.rw_quadsets_k02_maps_chained) (n := 63) (k := 7) (x := "script") (sp := fun K => DL.spD K K2.RLaw) rfl (by decide) rfl ⟨rfl, by decide, by decide⟩ (fun w h Y => PySem.W.kIn_of Y) ?F (fun K H a ns hl _ hS => K2.sp_law hl hS)
  case F =>
    intro w mg fa h KX G hmg
    refine' K2.all_mk KX G hmg ?a7 ?l7 ?c7 ?k7 ?a8 ?l8 ?c8 ?k8 ?a10 ?l10 ?c10 ?k10 ?a11 ?l11 ?c11 ?k11 ?a12 ?l12 ?c12 ?k12 ?a13 ?l13 ?c13 ?k13 ?a14 ?l14 ?c14 ?k14 ?a16 ?l16 ?c16 ?k16 ?a17 ?l17 ?c17 ?k17 ?a18 ?l18 ?c18 ?k18 ?a19 ?l19 ?c19 ?k19 ?a20 ?l20 ?c20 ?k20 ?a21 ?l21 ?c21 ?k21 ?a22 ?l22 ?c22 ?k22 ?a23 ?l23 ?c23 ?k23 ?a24 ?l24 ?c24 ?k24 ?a25 ?l25 ?c25 ?k25 ?a26 ?l26 ?c26 ?k26 ?a27 ?l27 ?c27 ?k27 ?a28 ?l28 ?c28 ?k28 ?a29 ?l29 ?c29 ?k29 ?a30 ?l30 ?c30 ?k30 ?a31 ?l31 ?c31 ?k31 ?a32 ?l32 ?c32 ?k32 ?b_len ?b_tuple ?b_sum ?b_zip ?b_range ?b_abs ?b_int ?b_repr ?b_list ?b_isinstance ?b_ValueError ?b_super ?op ?htop ?gP ?gD ?gT ?pE ?pH ?pT ?oG ?oT ?gB ?xB ?rB ?saB ?gaB ?ggB ?noB ?inB ?tiB ?kcB ?exB ?tyB ?hdB ?suB ?veB ?seB ?clB ?obB ?piB ?flB ?fcB ?frB ?fvB ?ffB ?fyB ?evB ?gM ?xM ?rM ?saM ?gaM ?ggM ?noM ?inM ?tiM ?kcM ?exM ?tyM ?hdM ?suM ?veM ?seM ?clM ?obM ?piM ?flM ?fcM ?frM ?fvM ?ffM ?fyM ?evM ?qBB ?qBM ?qBD ?qBT ?qBV ?qMB ?qMM ?qMD ?qMT ?qMV
    (case a7 => k_is)
    (case l7 => k_is)
    (case c7 => k_is)
    (case k7 => k_is)
    (case a8 => k_is)
    (case l8 => k_is)
    (case c8 => k_is)
    (case k8 => k_is)
    (case a10 => k_is)
    (case l10 => k_is)
    (case c10 => k_is)
    (case k10 => k_is)
    (case a11 => k_is)
    (case l11 => k_is)
    (case c11 => k_is)
    (case k11 => k_is)
    (case a12 => k_is)
    (case l12 => k_is)
    (case c12 => k_is)
    (case k12 => k_is)
    (case a13 => k_is)
    (case l13 => k_is)
    (case c13 => k_is)
    (case k13 => k_is)
    (case a14 => k_is)
    (case l14 => k_is)
    (case c14 => k_is)
    (case k14 => k_is)
    (case a16 => k_is)
    (case l16 => k_is)
    (case c16 => k_is)
    (case k16 => k_is)
    (case a17 => k_is)
    (case l17 => k_is)
    (case c17 => k_is)
    (case k17 => k_is)
    (case a18 => k_is)
    (case l18 => k_is)
    (case c18 => k_is)
    (case k18 => k_is)
    (case a19 => k_is)
    (case l19 => k_is)
    (case c19 => k_is)
    (case k19 => k_is)
    (case a20 => k_is)
    (case l20 => k_is)
    (case c20 => k_is)
    (case k20 => k_is)
    (case a21 => k_is)
    (case l21 => k_is)
    (case c21 => k_is)
    (case k21 => k_is)
    (case a22 => k_is)
    (case l22 => k_is)
    (case c22 => k_is)
    (case k22 => k_is)
    (case a23 => k_is)
    (case l23 => k_is)
    (case c23 => k_is)
    (case k23 => k_is)
    (case a24 => k_is)
    (case l24 => k_is)
    (case c24 => k_is)
    (case k24 => k_is)
    (case a25 => k_is)
    (case l25 => k_is)
    (case c25 => k_is)
    (case k25 => k_is)
    (case a26 => k_is)
    (case l26 => k_is)
    (case c26 => k_is)
    (case k26 => k_is)
    (case a27 => k_is)
    (case l27 => k_is)
    (case c27 => k_is)
    (case k27 => k_is)
    (case a28 => k_is)
    (case l28 => k_is)
    (case c28 => k_is)
    (case k28 => k_is)
    (case a29 => k_is)
    (case l29 => k_is)
    (case c29 => k_is)
    (case k29 => k_is)
    (case a30 => k_is)
    (case l30 => k_is)
    (case c30 => k_is)
    (case k30 => k_is)
    (case a31 => k_is)
    (case l31 => k_is)
    (case c31 => k_is)
    (case k31 => k_is)
    (case a32 => k_is)
    (case l32 => k_is)
    (case c32 => k_is)
    (case k32 => k_is)
    (case b_len => k_is)
    (case b_tuple => k_is)
    (case b_sum => k_is)
    (case b_zip => k_is)
    (case b_range => k_is)
    (case b_abs => k_is)
    (case b_int => k_is)
    (case b_repr => k_is)
    (case b_list => k_is)
    (case b_isinstance => k_is)
    (case b_ValueError => k_is)
    (case b_super => k_is)
    (case op => k_is)
    (case htop => first | rfl | decide +kernel)
    (case gP => k_is)
    (case gD => k_is)
    (case gT => k_is)
    (case pE => k_is)
    (case pH => k_is)
    (case pT => k_is)
    (case oG => k_is)
    (case oT => k_is)
    (case gB => k_is)
    (case xB => k_is)
    (case rB => first | rfl | decide +kernel)
    (case saB => k_is)
    (case gaB => k_is)
    (case ggB => k_is)
    (case noB => k_is)
    (case inB => k_is)
    (case tiB => k_is)
    (case kcB => k_is)
    (case exB => k_is)
    (case tyB => k_is)
    (case hdB => k_is)
    (case suB => ks_is)
    (case veB => k_is)
    (case seB => k_is)
    (case clB => k_is)
    (case obB => k_is)
    (case piB => k_is)
    (case flB => k_is)
    (case fcB => k_is)
    (case frB => k_is)
    (case fvB => rfl)
    (case ffB => first | rfl | decide +kernel)
    (case fyB => k_is)
    (case evB => intro L; exact ⟨_, rfl⟩)
    (case gM => k_is)
    (case xM => k_is)
    (case rM => first | rfl | decide +kernel)
    (case saM => k_is)
    (case gaM => k_is)
    (case ggM => k_is)
    (case noM => k_is)
    (case inM => k_is)
    (case tiM => k_is)
    (case kcM => k_is)
    (case exM => k_is)
    (case tyM => k_is)
    (case hdM => k_is)
    (case suM => ks_is)
    (case veM => k_is)
    (case seM => k_is)
    (case clM => k_is)
    (case obM => k_is)
    (case piM => k_is)
    (case flM => k_is)
    (case fcM => k_is)
    (case frM => k_is)
    (case fvM => rfl)
    (case ffM => first | rfl | decide +kernel)
    (case fyM => k_is)
    (case evM => intro L; exact ⟨_, rfl⟩)
    (case qBB => kit_is)
    (case qBM => kit_is)
    (case qBD => kit_is)
    (case qBT => kit_is)
    (case qBV => kit_is)
    (case qMB => kit_is)
    (case qMM => kit_is)
    (case qMD => kit_is)
    (case qMT => kit_is)
    (case qMV => kit_is)

